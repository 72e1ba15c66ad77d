import PyProof.Rows.All
import Wide.All
import OpenK.AllK
import Wide.FinOn
import HandS.ForMost
import HandS.Exc
import HandS.TryOnly
import HandS.ExcOwn
import HandS.WordsExc
import HandS.Wide
import HandS.Deep
import HandS.TupAny
import HandS.SortInts
import HandS.Style
import HandS.IsInst
import HandS.Conv
import HandS.Keys
import HandS.TupSets
import HandS.SetFor
import HandS.ExcInit
import HandS.ExcIs
import HandS.ExcField
import HandS.HotCalls
import HandS.SortKw
import KE.GoesEnumKw
import HandS.Dict
import HandS.More
import PyProof.EqAt
import HandS.DictTup
import HandS.Small
import HandS.Strs
import PyProof.DictMoreH
import HandS.Iter
import HandS.Walk
import HandS.TupLen
import HandS.SortRule
import HandS.Codes
import HandS.TryMany
import HandS.List
import KE.KDictPairs
import KE.KDictCopyH
import KE.KDictSum
import KE.KStateDown
import HandS.Base
import HandS.Call
import HandS.Ends
import HandS.Head0
import HandS.Head1
import HandS.Head2
import HandS.HeadEnd
import HandS.HeadHook1
import PyProof.EqKinds
import PyProof.TupleCall
import KE.KRevSl
import KE.KxPercent
import HandS.DictComp
import KE.KEqDict
import PyProof.Draws
import KE.GoesMore
import KE.GoesEnum
import HandS.Text
import PyProof.StrOps2
import PySem.Challenge.RW_bedstone_k93_plan_written_read
set_option Elab.async false
set_option linter.all false
set_option maxRecDepth 100000
set_option maxHeartbeats 2000000
namespace QV
open PySem L2

inductive Lab where
  | fr | base | sl (i : Nat) | tm (k : Nat)
  deriving DecidableEq
abbrev Ow := Addr → Lab

inductive Kd where
  | lst | tup | dK (ks : List Key) | dT (ks : List (List Key)) | lkT (o : Obj) (ks : List (List Key)) | ins (C : Addr) (ks : List Str) | lsA (b : Addr)
inductive D where
  | non | bl (b : Bool) | int (i : Int) | str (x : Str) | scr (ns : List Int) | nd (k : Kd) (ds : List D) | exc (a C : Addr) (d : Option Addr) (ks : List Str) (ds : List D)
inductive T where
  | fz (d : D) | ow (k : Kd) (ds : List D) | nd (k : Kd) (ts : List T)
abbrev Env := List (Option T)

mutual
def T.d : T → D
  | .fz d => d
  | .ow k ds => .nd k ds
  | .nd k ts => .nd k (Tsd ts)
def Tsd : List T → List D
  | [] => []
  | t :: ts => T.d t :: Tsd ts
end
def Bs (H : Hp) (ow : Ow) : Hp := fun a => if ow a = .base then H a else match H a with
  | some (.tup vs) => some (.tup vs)
  | _ => none
theorem bs_of {H : Hp} {ow : Ow} {a : Addr} (h : ow a = .base) : Bs H ow a = H a := if_pos h
theorem bs_some {H : Hp} {ow : Ow} {a : Addr} {o : HO} (h : Bs H ow a = some o) : (ow a = .base ∨ ∃ vs, o = .tup vs) ∧ H a = some o := by
  unfold Bs at h
  by_cases e : ow a = .base
  · rw [if_pos e] at h; exact ⟨.inl e, h⟩
  · rw [if_neg e] at h
    split at h
    · rename_i vs e2
      cases h
      exact ⟨.inr ⟨vs, rfl⟩, e2⟩
    · cases h
theorem bs_tup {H : Hp} {ow : Ow} {a : Addr} {vs : List V} (h : H a = some (.tup vs)) : Bs H ow a = some (.tup vs) := by
  unfold Bs
  by_cases e : ow a = .base
  · rw [if_pos e]; exact h
  · rw [if_neg e, h]
theorem bs_map {H H' : Hp} {ow ow' : Ow} (f : ∀ a o, H a = some o → ow a = .base → H' a = some o ∧ ow' a = .base) (g : ∀ a vs, H a = some (.tup vs) → H' a = some (.tup vs)) : Same (Bs H ow) (Bs H' ow') := fun a o e => by
  obtain ⟨e1 | ⟨vs, rfl⟩, e2⟩ := bs_some e
  · obtain ⟨h1, h2⟩ := f a o e2 e1
    rw [bs_of h2]
    exact h1
  · exact bs_tup (g a vs e2)
theorem bs_lab {H : Hp} {ow ow' : Ow} (f : ∀ a, ow a = .base → ow' a = .base) : Same (Bs H ow) (Bs H ow') := bs_map (fun a _ e q => ⟨e, f a q⟩) fun _ _ e => e
def HOof (k : Kd) (dx : Addr) (vs : List V) : HO := match k with
  | .lst => .lst vs
  | .tup => .tup vs
  | .dK ks => .dK (ks.zip vs)
  | .dT ks => .dT (ks.zip vs)
  | .lkT o ks => .frz o (.dT (ks.zip vs))
  | .lsA _ => .lst vs
  | .ins C ks => .ins C dx (ks.zip vs)
def Fits (H : Hp) (a dx : Addr) (k : Kd) (vs : List V) : Prop := match k with
  | .lst => True
  | .tup => True
  | .dK ks => ks.length = vs.length
  | .dT ks => ks.length = vs.length
  | .lkT _ ks => ks.length = vs.length
  | .lsA b => b = a
  | .ins _ ks => ks.length = vs.length ∧ H dx = some (.own a) ∧ dx ≠ a
structure Cell (H : Hp) (a dx : Addr) (k : Kd) (vs : List V) : Prop where
  at_ : H a = some (HOof k dx vs)
  sz : vs.length ≤ sizeLine
  fit : Fits H a dx k vs
def Foot (a dx : Addr) (k : Kd) (b : Addr) : Prop := match k with
  | .ins _ _ => b = a ∨ b = dx
  | _ => b = a
theorem foot_a {a dx : Addr} {k : Kd} : Foot a dx k a := by cases k <;> first | rfl | exact .inl rfl

section
variable {K : PySem.W.Frag}
mutual
inductive Rp (K : PySem.W.Frag) (B : Hp) : V → D → Prop
  | non : Rp K B .non .non
  | bl (b : Bool) : Rp K B (.bl b) (.bl b)
  | int (i : Int) : Rp K B (.int i) (.int i)
  | str (x : Str) : Rp K B (.str x) (.str x)
  | scr {a : Addr} {ns : List Int} : SqL K B a (ns.map V.int) → Rp K B (.ref a) (.scr ns)
  | exc0 (a C : Addr) : Rp K B (.ref a) (.exc a C none [] [])
  | exc1 {a C dd : Addr} {ks : List Str} {vs : List V} {ds : List D} : B dd = some (.xd (ks.zip vs)) → ks.length = vs.length → Rps K B vs ds → Rp K B (.ref a) (.exc a C (some dd) ks ds)
  | tup {a : Addr} {vs : List V} {ds : List D} : B a = some (.tup vs) → vs.length ≤ sizeLine → Rps K B vs ds → Rp K B (.ref a) (.nd .tup ds)
  | cell {a dx : Addr} {k : Kd} {vs : List V} {ds : List D} : k ≠ .tup → Cell B a dx k vs → Rps K B vs ds → Rp K B (.ref a) (.nd k ds)
inductive Rps (K : PySem.W.Frag) (B : Hp) : List V → List D → Prop
  | nil : Rps K B [] []
  | cons {v : V} {d : D} {vs : List V} {ds : List D} : Rp K B v d → Rps K B vs ds → Rps K B (v :: vs) (d :: ds)
end

theorem Cell.mono {B B' : Hp} (e : Same B B') {a dx : Addr} {k : Kd} {vs : List V} (c : Cell B a dx k vs) : Cell B' a dx k vs := by
  refine ⟨e _ _ c.at_, c.sz, ?_⟩
  have f := c.fit
  cases k with
  | ins C ks => exact ⟨f.1, e _ _ f.2.1, f.2.2⟩
  | _ => exact f
theorem sqT_of {K : PySem.W.Frag} {H : Hp} {a : Addr} {xs : List V} (h : H a = some (.tup xs)) : SqT K H a xs := .inl (.inl h)
theorem sqT_mono {B B' : Hp} (e : Same B B') {a : Addr} {xs : List V} (h : SqT K B a xs) : SqT K B' a xs := by
  rcases h with (h | ⟨o, h⟩) | h
  · exact .inl (.inl (e _ _ h))
  · exact .inl (.inr ⟨o, e _ _ h⟩)
  · exact .inr h
mutual
theorem Rp.mono {B B' : Hp} (e : Same B B') : ∀ {v : V} {d : D}, Rp K B v d → Rp K B' v d
  | _, _, .non => .non
  | _, _, .bl b => .bl b
  | _, _, .int i => .int i
  | _, _, .str x => .str x
  | _, _, .scr h => .scr (e.seq h)
  | _, _, .exc0 a C => .exc0 a C
  | _, _, .exc1 h l r => .exc1 (e _ _ h) l (Rps.mono e r)
  | _, _, .tup h z r => .tup (e _ _ h) z (Rps.mono e r)
  | _, _, .cell n c r => .cell n (c.mono e) (Rps.mono e r)
theorem Rps.mono {B B' : Hp} (e : Same B B') : ∀ {vs : List V} {ds : List D}, Rps K B vs ds → Rps K B' vs ds
  | _, _, .nil => .nil
  | _, _, .cons r t => .cons (Rp.mono e r) (Rps.mono e t)
end
theorem Rps.len {B : Hp} : ∀ {vs : List V} {ds : List D}, Rps K B vs ds → vs.length = ds.length
  | _, _, .nil => rfl
  | _, _, .cons _ t => by rw [List.length_cons, List.length_cons, Rps.len t]
theorem Rps.get {B : Hp} : ∀ {vs : List V} {ds : List D} {i : Nat} {d : D}, Rps K B vs ds → ds[i]? = some d → ∃ v, vs[i]? = some v ∧ Rp K B v d
  | _, _, _, _, .nil, e => by simp at e
  | _, _, 0, _, .cons r _, e => by simp at e; subst e; exact ⟨_, rfl, r⟩
  | _, _, i + 1, d, .cons _ t, e => by
    obtain ⟨v, h1, h2⟩ := Rps.get (i := i) (d := d) t (by simpa using e)
    exact ⟨v, by simpa using h1, h2⟩
theorem Rps.app {B : Hp} : ∀ {vs ws : List V} {ds es : List D}, Rps K B vs ds → Rps K B ws es → Rps K B (vs ++ ws) (ds ++ es)
  | _, _, _, _, .nil, s => s
  | _, _, _, _, .cons r t, s => .cons r (Rps.app t s)
theorem Rps.take {B : Hp} : ∀ {vs : List V} {ds : List D} (n : Nat), Rps K B vs ds → Rps K B (vs.take n) (ds.take n)
  | _, _, 0, _ => by simpa using Rps.nil
  | _, _, _ + 1, .nil => .nil
  | _, _, n + 1, .cons r t => .cons r (Rps.take n t)
theorem Rps.drop {B : Hp} : ∀ {vs : List V} {ds : List D} (n : Nat), Rps K B vs ds → Rps K B (vs.drop n) (ds.drop n)
  | _, _, 0, r => r
  | _, _, _ + 1, .nil => .nil
  | _, _, n + 1, .cons _ t => Rps.drop n t
theorem Rps.set {B : Hp} {v : V} {d : D} (q : Rp K B v d) : ∀ {vs : List V} {ds : List D} (n : Nat), Rps K B vs ds → Rps K B (vs.set n v) (ds.set n d)
  | _, _, _, .nil => .nil
  | _, _, 0, .cons _ t => .cons q t
  | _, _, n + 1, .cons r t => .cons r (Rps.set q n t)
theorem Rp.cellOf {B : Hp} {a dx : Addr} {k : Kd} {vs : List V} {ds : List D} (c : Cell B a dx k vs) (rs : Rps K B vs ds) : Rp K B (.ref a) (.nd k ds) := by
  by_cases hk : k = .tup
  · subst hk
    exact .tup c.at_ c.sz rs
  · exact .cell hk c rs

mutual
inductive Tp (K : PySem.W.Frag) (H : Hp) (ow : Ow) (l : Lab) : V → T → (Addr → Prop) → Prop
  | fz {v : V} {d : D} : Rp K (Bs H ow) v d → Tp K H ow l v (.fz d) (fun _ => False)
  | ow {a dx : Addr} {k : Kd} {vs : List V} {ds : List D} : Cell H a dx k vs → (∀ b, Foot a dx k b → ow b = l) → Rps K (Bs H ow) vs ds → Tp K H ow l (.ref a) (.ow k ds) (Foot a dx k)
  | nd {a dx : Addr} {k : Kd} {vs : List V} {ts : List T} {S : Addr → Prop} : Cell H a dx k vs → (∀ b, Foot a dx k b → ow b = l ∧ ¬ S b) → Tps K H ow l vs ts S → Tp K H ow l (.ref a) (.nd k ts) (fun b => Foot a dx k b ∨ S b)
inductive Tps (K : PySem.W.Frag) (H : Hp) (ow : Ow) (l : Lab) : List V → List T → (Addr → Prop) → Prop
  | nil : Tps K H ow l [] [] (fun _ => False)
  | cons {v : V} {t : T} {vs : List V} {ts : List T} {S1 S2 : Addr → Prop} : Tp K H ow l v t S1 → Tps K H ow l vs ts S2 → (∀ b, S1 b → ¬ S2 b) → Tps K H ow l (v :: vs) (t :: ts) (fun b => S1 b ∨ S2 b)
end
def Tq (K : PySem.W.Frag) (H : Hp) (ow : Ow) (l : Lab) (v : V) (t : T) : Prop := ∃ S, Tp K H ow l v t S

theorem Cell.there {H : Hp} {a dx : Addr} {k : Kd} {vs : List V} (c : Cell H a dx k vs) {b : Addr} (f : Foot a dx k b) : ∃ o, H b = some o := by
  cases k with
  | ins C ks =>
    rcases f with rfl | rfl
    · exact ⟨_, c.at_⟩
    · exact ⟨_, c.fit.2.1⟩
  | _ =>
    have f' : b = a := f
    subst f'
    exact ⟨_, c.at_⟩
theorem Cell.at_same {H H' : Hp} {a dx : Addr} {k : Kd} {vs : List V} (c : Cell H a dx k vs) (e : ∀ b o, Foot a dx k b → H b = some o → H' b = some o) : Cell H' a dx k vs := by
  refine ⟨e a _ foot_a c.at_, c.sz, ?_⟩
  have f := c.fit
  cases k with
  | ins C ks => exact ⟨f.1, e _ _ (.inr rfl) f.2.1, f.2.2⟩
  | _ => exact f
mutual
theorem Tp.there {H : Hp} {ow : Ow} {l : Lab} : ∀ {v : V} {t : T} {S : Addr → Prop}, Tp K H ow l v t S → ∀ b, S b → ow b = l ∧ ∃ o, H b = some o
  | _, _, _, .fz _, _, h => h.elim
  | _, _, _, .ow c f r, b, h => ⟨f b h, c.there h⟩
  | _, _, _, .nd c f r, b, h => by
    rcases h with h | h
    · exact ⟨(f b h).1, c.there h⟩
    · exact Tps.there r b h
theorem Tps.there {H : Hp} {ow : Ow} {l : Lab} : ∀ {v : List V} {t : List T} {S : Addr → Prop}, Tps K H ow l v t S → ∀ b, S b → ow b = l ∧ ∃ o, H b = some o
  | _, _, _, .nil, _, h => h.elim
  | _, _, _, .cons r s _, b, h => by
    rcases h with h | h
    · exact Tp.there r b h
    · exact Tps.there s b h
end
structure Car (H H' : Hp) (ow ow' : Ow) (l l' : Lab) : Prop where
  bs : Same (Bs H ow) (Bs H' ow')
  own : ∀ a o, H a = some o → ow a = l → H' a = some o ∧ ow' a = l'
mutual
theorem Tp.car {H H' : Hp} {ow ow' : Ow} {l l' : Lab} : ∀ {v : V} {t : T} {S : Addr → Prop}, (Same (Bs H ow) (Bs H' ow')) → (∀ a o, S a → H a = some o → ow a = l → H' a = some o ∧ ow' a = l') → Tp K H ow l v t S → Tp K H' ow' l' v t S
  | _, _, _, e, _, .fz r => .fz (r.mono e)
  | _, _, _, e, k, .ow c f r => .ow (c.at_same fun b o fb q => (k b o fb q (f b fb)).1) (fun b fb => let ⟨o, q⟩ := c.there fb; (k b o fb q (f b fb)).2) (r.mono e)
  | _, _, _, e, k, .nd c f r => .nd (c.at_same fun b o fb q => (k b o (.inl fb) q (f b fb).1).1)
      (fun b fb => let ⟨o, q⟩ := c.there fb; ⟨(k b o (.inl fb) q (f b fb).1).2, (f b fb).2⟩) (Tps.car e (fun b o s => k b o (.inr s)) r)
theorem Tps.car {H H' : Hp} {ow ow' : Ow} {l l' : Lab} : ∀ {v : List V} {t : List T} {S : Addr → Prop}, (Same (Bs H ow) (Bs H' ow')) → (∀ a o, S a → H a = some o → ow a = l → H' a = some o ∧ ow' a = l') → Tps K H ow l v t S → Tps K H' ow' l' v t S
  | _, _, _, _, _, .nil => .nil
  | _, _, _, e, k, .cons r s d => .cons (Tp.car e (fun b o q => k b o (.inl q)) r) (Tps.car e (fun b o q => k b o (.inr q)) s) d
end
theorem Car.tp {H H' : Hp} {ow ow' : Ow} {l l' : Lab} (c : Car H H' ow ow' l l') {v : V} {t : T} {S : Addr → Prop} (h : Tp K H ow l v t S) : Tp K H' ow' l' v t S := h.car c.bs fun a o _ => c.own a o
theorem Car.tq {H H' : Hp} {ow ow' : Ow} {l l' : Lab} (c : Car H H' ow ow' l l') {v : V} {t : T} (h : Tq K H ow l v t) : Tq K H' ow' l' v t := h.imp fun _ => c.tp

mutual
theorem Tp.all {H B : Hp} {ow : Ow} {l : Lab} : ∀ {v : V} {t : T} {S : Addr → Prop}, Same (Bs H ow) B → (∀ a o, S a → H a = some o → ow a = l → B a = some o) → Tp K H ow l v t S → Rp K B v t.d
  | _, .fz _, _, e, _, .fz r => r.mono e
  | _, .ow kd ds, _, e, k, .ow c f r => Rp.cellOf (c.at_same (H' := B) fun b o fb q => k b o fb q (f b fb)) (r.mono e)
  | _, .nd kd ts, _, e, k, .nd c f r => by
    have c' := c.at_same (H' := B) fun b o fb q => k b o (.inl fb) q (f b fb).1
    have rs := Tps.all e (fun b o s => k b o (.inr s)) r
    exact Rp.cellOf c' rs
theorem Tps.all {H B : Hp} {ow : Ow} {l : Lab} : ∀ {v : List V} {t : List T} {S : Addr → Prop}, Same (Bs H ow) B → (∀ a o, S a → H a = some o → ow a = l → B a = some o) → Tps K H ow l v t S → Rps K B v (Tsd t)
  | _, _, _, _, _, .nil => .nil
  | _, _, _, e, k, .cons r s _ => .cons (Tp.all e (fun b o q => k b o (.inl q)) r) (Tps.all e (fun b o q => k b o (.inr q)) s)
end
theorem bs_same (H : Hp) (ow : Ow) : Same (Bs H ow) H := fun _ _ e => (bs_some e).2
theorem Tq.rd {H : Hp} {ow : Ow} {l : Lab} {v : V} {t : T} (h : Tq K H ow l v t) : Rp K H v t.d :=
  let ⟨_, h⟩ := h; h.all (bs_same H ow) fun _ _ _ q _ => q
theorem Tps.len {H : Hp} {ow : Ow} {l : Lab} : ∀ {vs : List V} {ts : List T} {S : Addr → Prop}, Tps K H ow l vs ts S → vs.length = ts.length
  | _, _, _, .nil => rfl
  | _, _, _, .cons _ t _ => by rw [List.length_cons, List.length_cons, Tps.len t]
end
end QV

set_option Elab.async false
set_option linter.all false
set_option maxRecDepth 100000
set_option maxHeartbeats 2000000
namespace QV
open PySem L2

structure Rz where
  C : Addr
  ks : List Str
  ds : List D
abbrev XQ := Rz → Env → Prop
abbrev SemE := Env → (T → Env → Prop) → XQ → Prop
abbrev SemP := Env → (T → List Nat → Env → Prop) → XQ → Prop
abbrev SemT := Env → (Bool → Env → Prop) → XQ → Prop
section
variable {K : PySem.W.Frag} {H H' H1 H2 : Hp} {ow ow' ow1 ow2 : Ow} {l l' : Lab} {v : V} {t : T} {M M' M1 M2 : List Nat} {n n' n1 n2 : Nat} {σ : L2.St} {env env' : Env} {p a : Addr} {o : HO}

structure StOk (K : PySem.W.Frag) (H : Hp) (ow : Ow) (σ : L2.St) (env : Env) : Prop where
  len : env.length = σ.length
  at_ : ∀ (i : Nat) (t : T), env[i]? = some (some t) → ∃ v, σ[i]? = some (some v) ∧ Tq K H ow (.sl i) v t
def Prot (M : List Nat) (n : Nat) : Lab → Prop
  | .fr => True
  | .base => True
  | .sl i => i ∉ M
  | .tm k => k < n
theorem Prot.mono (hM : ∀ i ∈ M', i ∈ M) (hn : n ≤ n') (h : Prot M n l) : Prot M' n' l := by
  cases l with
  | sl i => exact fun q => h (hM i q)
  | tm k => exact Nat.lt_of_lt_of_le h hn
  | _ => trivial
structure Stp (M : List Nat) (n : Nat) (H : Hp) (ow : Ow) (H' : Hp) (ow' : Ow) : Prop where
  go : ∀ a o, H a = some o → Prot M n (ow a) → H' a = some o ∧ ow' a = ow a
  tp : ∀ a vs, H a = some (.tup vs) → H' a = some (.tup vs)
instance : CoeFun (Stp M n H ow H' ow') (fun _ => ∀ a o, H a = some o → Prot M n (ow a) → H' a = some o ∧ ow' a = ow a) := ⟨Stp.go⟩
structure Out (M : List Nat) (env env' : Env) : Prop where
  len : env'.length = env.length
  eq : ∀ i, i ∉ M → env'[i]? = env[i]?
theorem Stp.refl : Stp M n H ow H ow := ⟨fun _ _ h _ => ⟨h, rfl⟩, fun _ _ h => h⟩
theorem Stp.trans (x : Stp M1 n1 H ow H1 ow1) (y : Stp M2 n2 H1 ow1 H2 ow2) (h1 : ∀ i ∈ M1, i ∈ M) (h2 : ∀ i ∈ M2, i ∈ M) (k1 : n ≤ n1) (k2 : n ≤ n2) : Stp M n H ow H2 ow2 := ⟨fun a o e q => by
  obtain ⟨e1, q1⟩ := x a o e (q.mono h1 k1)
  obtain ⟨e2, q2⟩ := y a o e1 (by rw [q1]; exact q.mono h2 k2)
  exact ⟨e2, q2.trans q1⟩, fun a vs e => y.tp a vs (x.tp a vs e)⟩
theorem Stp.mono (x : Stp M1 n1 H ow H1 ow1) (h1 : ∀ i ∈ M1, i ∈ M) (k1 : n ≤ n1) : Stp M n H ow H1 ow1 := ⟨fun a o e q => x a o e (q.mono h1 k1), x.tp⟩
theorem Out.refl : Out M env env := ⟨rfl, fun _ _ => rfl⟩
theorem Out.trans {e1 e2 e3 : Env} (x : Out M1 e1 e2) (y : Out M2 e2 e3) (h1 : ∀ i ∈ M1, i ∈ M) (h2 : ∀ i ∈ M2, i ∈ M) : Out M e1 e3 := ⟨y.len.trans x.len, fun i hi => (y.eq i fun z => hi (h2 i z)).trans (x.eq i fun z => hi (h1 i z))⟩
theorem Out.mono {e1 e2 : Env} (x : Out M1 e1 e2) (h1 : ∀ i ∈ M1, i ∈ M) : Out M e1 e2 := ⟨x.len, fun i hi => x.eq i fun z => hi (h1 i z)⟩
theorem Out.set1 {i : Nat} {x : Option T} : Out [i] env (env.set i x) := ⟨List.length_set, fun j hj => List.getElem?_set_ne (fun z => hj (by simp [z]))⟩
theorem Stp.bs (x : Stp M n H ow H' ow') : Same (Bs H ow) (Bs H' ow') := bs_map (fun a o e q => by
  obtain ⟨h1, h2⟩ := x a o e (by rw [q]; trivial)
  exact ⟨h1, h2.trans q⟩) x.tp
theorem Stp.car (x : Stp M n H ow H' ow') (h : Prot M n l) : Car H H' ow ow' l l := ⟨x.bs, fun a o e q => by
  obtain ⟨h1, h2⟩ := x a o e (by rw [q]; exact h)
  exact ⟨h1, h2.trans q⟩⟩
theorem StOk.stp (s : StOk K H ow σ env) (x : Stp M n H ow H' ow') (out : Out M env env') (k : ∀ i t, i ∈ M → env'[i]? = some (some t) → ∃ v, σ[i]? = some (some v) ∧ Tq K H' ow' (.sl i) v t) : StOk K H' ow' σ env' := ⟨out.len.trans s.len, fun i t e => by
  by_cases h : i ∈ M
  · exact k i t h e
  · rw [out.eq i h] at e
    obtain ⟨v, q, r⟩ := s.at_ i t e
    exact ⟨v, q, (x.car (l := .sl i) h).tq r⟩⟩
theorem StOk.stp0 (s : StOk K H ow σ env) (x : Stp [] n H ow H' ow') : StOk K H' ow' σ env := s.stp x Out.refl fun _ _ h => nomatch h

def Ow.put (ow : Ow) (p : Addr) (l : Lab) : Ow := fun b => if b = p then l else ow b
theorem put_same : Ow.put ow p l p = l := if_pos rfl
theorem put_ne {b : Addr} (h : b ≠ p) : Ow.put ow p l b = ow b := if_neg h
theorem Stp.new (h : H p = none) : Stp M n H ow (upd H p o) (Ow.put ow p l) := ⟨fun a u e _ => by
  have ne := ne_of_none e h
  exact ⟨by rw [upd_ne ne]; exact e, put_ne ne⟩, fun a vs e => by rw [upd_ne (ne_of_none e h)]; exact e⟩
theorem Tq.newL {vs : List V} {ds : List D} (h : H p = none) (z : vs.length ≤ sizeLine) (r : Rps K (Bs H ow) vs ds) : Tq K (upd H p (.lst vs)) (Ow.put ow p l) l (.ref p) (.ow .lst ds) :=
  ⟨_, .ow (dx := p) ⟨upd_same, z, trivial⟩ (fun b fb => by
    have e : b = p := fb
    rw [e]; exact put_same) (r.mono (Stp.bs (M := []) (n := 0) (Stp.new h)))⟩
theorem Tq.newT {vs : List V} {ds : List D} (h : H p = none) (z : vs.length ≤ sizeLine) (r : Rps K (Bs H ow) vs ds) : Tq K (upd H p (.tup vs)) (Ow.put ow p l) l (.ref p) (.ow .tup ds) :=
  ⟨_, .ow (dx := p) ⟨upd_same, z, trivial⟩ (fun b fb => by
    have e : b = p := fb
    rw [e]; exact put_same) (r.mono (Stp.bs (M := []) (n := 0) (Stp.new h)))⟩
def Ow.mv (ow : Ow) (l l' : Lab) : Ow := fun b => if ow b = l then l' else ow b
theorem mv_eq {b : Addr} (h : ow b = l) : Ow.mv ow l l' b = l' := if_pos h
theorem mv_ne {b : Addr} (h : ow b ≠ l) : Ow.mv ow l l' b = ow b := if_neg h
theorem Stp.mv (h : ¬ Prot M n l) : Stp M n H ow H (Ow.mv ow l l') := ⟨fun a u e q => ⟨e, mv_ne fun z => h (z ▸ q)⟩, fun _ _ e => e⟩
theorem bs_mv (h : l ≠ .base) : Same (Bs H ow) (Bs H (Ow.mv ow l l')) := bs_lab fun a e1 => by rw [mv_ne (by rw [e1]; exact fun z => h z.symm)]; exact e1
theorem Tq.mv (h : l ≠ .base) (r : Tq K H ow l v t) : Tq K H (Ow.mv ow l l') l' v t := Car.tq ⟨bs_mv h, fun _ _ e q => ⟨e, mv_eq q⟩⟩ r
theorem Tq.frz (h : l ≠ .base) (r : Tq K H ow l v t) : Rp K (Bs H (Ow.mv ow l .base)) v t.d :=
  let ⟨_, r⟩ := r; r.all (bs_mv h) fun a o _ e q => by rw [bs_of (mv_eq q)]; exact e
theorem Tq.fz_ {d : D} : Tq K H ow l v (.fz d) ↔ Rp K (Bs H ow) v d := ⟨fun ⟨_, h⟩ => by cases h; assumption, fun h => ⟨_, .fz h⟩⟩
theorem not_tm : ¬ Prot M n (.tm n) := Nat.lt_irrefl n
theorem not_sl {i : Nat} (h : i ∈ M) : ¬ Prot M n (.sl i) := fun q => q h

theorem zip_inj {α β : Type} : ∀ {ks : List α} {vs ws : List β}, ks.length = vs.length → ks.length = ws.length → ks.zip vs = ks.zip ws → vs = ws
  | [], [], [], _, _, _ => rfl
  | k :: ks, v :: vs, w :: ws, h1, h2, h => by
    rw [List.zip_cons_cons, List.zip_cons_cons] at h
    obtain ⟨e1, e2⟩ := List.cons.inj h
    rw [(Prod.mk.inj e1).2, zip_inj (Nat.succ.inj h1) (Nat.succ.inj h2) e2]
theorem Cell.inj {dx dx' : Addr} {k : Kd} {vs ws : List V} (c : Cell H a dx k vs) (c' : Cell H a dx' k ws) : vs = ws := by
  have e := Option.some.inj (c.at_.symm.trans c'.at_)
  cases k with
  | lst => exact HO.lst.inj e
  | tup => exact HO.tup.inj e
  | dK ks => exact zip_inj c.fit c'.fit (HO.dK.inj e)
  | dT ks => exact zip_inj c.fit c'.fit (HO.dT.inj e)
  | lkT o ks => exact zip_inj c.fit c'.fit (HO.dT.inj (HO.frz.inj e).2)
  | lsA b => exact HO.lst.inj e
  | ins C ks => exact zip_inj c.fit.1 c'.fit.1 (HO.ins.inj e).2.2
inductive Sub (K : PySem.W.Frag) (H : Hp) (ow : Ow) (l : Lab) : V → T → List Nat → V → T → Prop
  | nil {v : V} {t : T} : Sub K H ow l v t [] v t
  | cons {a dx : Addr} {k : Kd} {vs : List V} {ts : List T} {j : Nat} {p : List Nat} {v1 v : V} {t1 t : T} : Cell H a dx k vs → (∀ b, Foot a dx k b → ow b = l) → vs[j]? = some v1 → ts[j]? = some t1 → Sub K H ow l v1 t1 p v t → Sub K H ow l (.ref a) (.nd k ts) (j :: p) v t
theorem Tps.get : ∀ {vs : List V} {ts : List T} {S : Addr → Prop} {j : Nat} {v : V} {t : T}, Tps K H ow l vs ts S → vs[j]? = some v → ts[j]? = some t → ∃ S', Tp K H ow l v t S'
  | _, _, _, _, _, _, .nil, e, _ => by simp at e
  | _, _, _, 0, _, _, .cons r _ _, e, e' => by simp at e e'; subst e e'; exact ⟨_, r⟩
  | _, _, _, j + 1, v, t, .cons _ s _, e, e' => Tps.get (j := j) s (by simpa using e) (by simpa using e')
theorem Sub.tq {v0 v : V} {t0 t : T} {pt : List Nat} (s : Sub K H ow l v0 t0 pt v t) : Tq K H ow l v0 t0 → Tq K H ow l v t := by
  induction s with
  | nil => exact id
  | cons c f e1 e2 _ ih =>
    rintro ⟨S, r⟩
    cases r with
    | nd c' f' r' =>
      have e := c'.inj c
      subst e
      obtain ⟨S', r1⟩ := r'.get e1 e2
      exact ih ⟨S', r1⟩
theorem Sub.car {v0 v : V} {t0 t : T} {pt : List Nat} (c : Car H H' ow ow' l l') (s : Sub K H ow l v0 t0 pt v t) : Sub K H' ow' l' v0 t0 pt v t := by
  induction s with
  | nil => exact .nil
  | cons q f e1 e2 _ ih => exact .cons (q.at_same fun b o fb e => (c.own b o e (f b fb)).1) (fun b fb => let ⟨o, e⟩ := q.there fb; (c.own b o e (f b fb)).2) e1 e2 ih
def Plc (K : PySem.W.Frag) (H : Hp) (ow : Ow) (σ : L2.St) (env : Env) (n : Nat) (root : Option Nat) (v : V) (t : T) (pt : List Nat) : Prop :=
  (∃ d, t = .fz d ∧ Rp K (Bs H ow) v d) ∨ (root = none ∧ Tq K H ow (.tm n) v t) ∨
    ∃ i v0 t0, root = some i ∧ σ[i]? = some (some v0) ∧ env[i]? = some (some t0) ∧ Sub K H ow (.sl i) v0 t0 pt v t
def Ro (K : PySem.W.Frag) (H : Hp) (ow : Ow) (v : V) (t : T) : Prop := ∃ l, Tq K H ow l v t
theorem Plc.ro {root : Option Nat} {pt : List Nat} (s : StOk K H ow σ env) (h : Plc K H ow σ env n root v t pt) : Ro K H ow v t := by
  rcases h with ⟨d, rfl, r⟩ | ⟨_, r⟩ | ⟨i, v0, t0, _, e1, e2, r⟩
  · exact ⟨.fr, Tq.fz_.mpr r⟩
  · exact ⟨_, r⟩
  · obtain ⟨w, e3, q⟩ := s.at_ i t0 e2
    rw [e1] at e3
    cases e3
    exact ⟨_, r.tq q⟩
def okR (r : Option Nat) (M : List Nat) : Bool := match r with
  | none => true
  | some i => decide (i ∉ M)
theorem Plc.stp {root : Option Nat} {pt : List Nat} (h : Plc K H ow σ env n root v t pt) (x : Stp M n' H ow H' ow') (out : Out M env env') (hr : okR root M = true) (hn : n < n') : Plc K H' ow' σ env' n root v t pt := by
  rcases h with ⟨d, rfl, r⟩ | ⟨e, r⟩ | ⟨i, v0, t0, rfl, e1, e2, r⟩
  · exact .inl ⟨d, rfl, r.mono x.bs⟩
  · exact .inr (.inl ⟨e, (x.car (l := .tm n) hn).tq r⟩)
  · have hi : i ∉ M := of_decide_eq_true hr
    exact .inr (.inr ⟨i, v0, t0, rfl, e1, (out.eq i hi).trans e2, r.car (x.car (l := .sl i) hi)⟩)
theorem Ro.rd (h : Ro K H ow v t) : Rp K H v t.d := let ⟨_, h⟩ := h; h.rd

def Rzp (K : PySem.W.Frag) (H : Hp) (ow : Ow) (d : Option Addr) (r : Rz) : Prop := match d with
  | some d => ∃ vs, Bs H ow d = some (.xd (r.ks.zip vs)) ∧ r.ks.length = vs.length ∧ Rps K (Bs H ow) vs r.ds
  | none => r.ks = [] ∧ r.ds = []
def Xk (K : PySem.W.Frag) (W : WX) (M : List Nat) (σ : L2.St) (H : Hp) (n : Nat) (ow : Ow) (env : Env) (E : XQ) : Prop :=
  ∀ (r : Rz) (d : Option Addr) (H' : Hp) (ow' : Ow) (env' : Env), Stp M n H ow H' ow' → StOk K H' ow' σ env' → Out M env env' → Rzp K H' ow' d r → E r env' → W (.ref r.C) d σ H'
def tP (K : PySem.W.Frag) (W : WX) (M : List Nat) (root : Option Nat) (q : SemP) : TE := fun σ H Qv => ∃ (n : Nat) (ow : Ow) (env : Env) (Q : T → List Nat → Env → Prop) (E : XQ), StOk K H ow σ env ∧ q env Q E ∧
  (∀ (v : V) (t : T) (pt : List Nat) (H' : Hp) (ow' : Ow) (env' : Env), Stp M n H ow H' ow' → StOk K H' ow' σ env' → Out M env env' → Plc K H' ow' σ env' n root v t pt → Q t pt env' → Qv v H') ∧ Xk K W M σ H n ow env E
def tQ (K : PySem.W.Frag) (W : WX) (M : List Nat) (q : SemE) : TE := fun σ H Qv => ∃ (n : Nat) (ow : Ow) (env : Env) (Q : T → Env → Prop) (E : XQ), StOk K H ow σ env ∧ q env Q E ∧
  (∀ (v : V) (t : T) (H' : Hp) (ow' : Ow) (env' : Env), Stp M n H ow H' ow' → StOk K H' ow' σ env' → Out M env env' → Tq K H' ow' (.tm n) v t → Q t env' → Qv v H') ∧ Xk K W M σ H n ow env E
def tT (K : PySem.W.Frag) (W : WX) (M : List Nat) (q : SemT) : TT := fun σ H Qv => ∃ (n : Nat) (ow : Ow) (env : Env) (Q : Bool → Env → Prop) (E : XQ), StOk K H ow σ env ∧ q env Q E ∧
  (∀ (b : Bool) (H' : Hp) (ow' : Ow) (env' : Env), Stp M n H ow H' ow' → StOk K H' ow' σ env' → Out M env env' → Q b env' → Qv b H') ∧ Xk K W M σ H n ow env E
theorem Xk.step {W : WX} {E : XQ} (k : Xk K W M σ H n ow env E) (x : Stp M1 n1 H ow H1 ow1) {env1 : Env} (out : Out M1 env env1) (h1 : ∀ i ∈ M1, i ∈ M) (h2 : ∀ i ∈ M2, i ∈ M) (k1 : n ≤ n1) (k2 : n ≤ n2) : Xk K W M2 σ H1 n2 ow1 env1 E :=
  fun r d H' ow' env' y s o2 z e => k r d H' ow' env' (x.trans y h1 h2 k1 k2) s (out.trans o2 h1 h2) z e
end

structure QP (X : Cx) (W : WX) (M : List Nat) (root : Option Nat) (e : Expr) (q : SemP) : Prop where
  run : PE X e (tP X.K W M root q)
structure QE (X : Cx) (W : WX) (M : List Nat) (e : Expr) (q : SemE) : Prop where
  run : PE X e (tQ X.K W M q)
structure QT (X : Cx) (W : WX) (M : List Nat) (e : Expr) (q : SemT) : Prop where
  run : PT X e (tT X.K W M q)
theorem PE_imp {X : Cx} {e : Expr} {t t' : TE} (h : PE X e t) (f : ∀ σ H Q, t' σ H Q → t σ H Q) : PE X e t' := ⟨fun pins s σ H Q I q => h.run pins s σ H Q I (f _ _ _ q)⟩
theorem PT_imp {X : Cx} {e : Expr} {t t' : TT} (h : PT X e t) (f : ∀ σ H Q, t' σ H Q → t σ H Q) : PT X e t' := ⟨fun pins s σ H Q I q => h.run pins s σ H Q I (f _ _ _ q)⟩
section
variable {X : Cx} {W : WX} {M M' Ma Mb : List Nat} {e a b : Expr} {q qa qb : SemE} {pa pb : SemP} {ra rb root : Option Nat} {pos : Pos}
theorem nilsub {M : List Nat} : ∀ i ∈ ([] : List Nat), i ∈ M := fun _ h => nomatch h
theorem subl {Ma Mb : List Nat} : ∀ i ∈ Ma, i ∈ Ma ++ Mb := fun _ h => List.mem_append_left _ h
theorem subr {Ma Mb : List Nat} : ∀ i ∈ Mb, i ∈ Ma ++ Mb := fun _ h => List.mem_append_right _ h
theorem QE.more (h : QE X W M e q) (hs : ∀ i ∈ M, i ∈ M') : QE X W M' e q := ⟨PE_imp h.run fun σ H Qv ⟨n, ow, env, Q, E, s, hq, k, x⟩ =>
  ⟨n, ow, env, Q, E, s, hq, fun v t H' ow' env' y s' o r z => k v t H' ow' env' (y.mono hs (Nat.le_refl _)) s' (o.mono hs) r z, fun r d H' ow' env' y s' o => x r d H' ow' env' (y.mono hs (Nat.le_refl _)) s' (o.mono hs)⟩⟩
theorem QT.more {q : SemT} (h : QT X W M e q) (hs : ∀ i ∈ M, i ∈ M') : QT X W M' e q := ⟨PT_imp h.run fun σ H Qv ⟨n, ow, env, Q, E, s, hq, k, x⟩ =>
  ⟨n, ow, env, Q, E, s, hq, fun v H' ow' env' y s' o z => k v H' ow' env' (y.mono hs (Nat.le_refl _)) s' (o.mono hs) z, fun r d H' ow' env' y s' o => x r d H' ow' env' (y.mono hs (Nat.le_refl _)) s' (o.mono hs)⟩⟩
def sPE (q : SemE) : SemP := fun env Q E => q env (fun t env' => Q t [] env') E
theorem QE.p (h : QE X W M e q) : QP X W M none e (sPE q) := ⟨PE_imp h.run fun σ H Qv ⟨n, ow, env, Q, E, s, hq, k, x⟩ =>
  ⟨n, ow, env, fun t env' => Q t [] env', E, s, hq, fun v t H' ow' env' y s' o r z => k v t [] H' ow' env' y s' o (.inr (.inl ⟨rfl, r⟩)) z, x⟩⟩
def sFz (q : SemE) : SemE := fun env Q E => q env (fun t env' => Q (.fz t.d) env') E
theorem QE.fz (h : QE X W M e q) : QE X W M e (sFz q) := ⟨PE_imp h.run fun σ H Qv ⟨n, ow, env, Q, E, s, hq, k, x⟩ =>
  ⟨n, ow, env, fun t env' => Q (.fz t.d) env', E, s, hq, fun v t H' ow' env' y s' o r z => by
    have y2 : Stp [] n H' ow' H' (Ow.mv ow' (.tm n) .base) := Stp.mv not_tm
    exact k v (.fz t.d) H' _ env' (y.trans y2 (fun _ h => h) nilsub (Nat.le_refl _) (Nat.le_refl _)) (s'.stp0 y2) o (Tq.fz_.mpr (r.frz (fun z => nomatch z))) z, x⟩⟩
def sEP (q : SemP) : SemE := fun env Q E => q env (fun t _ env' => match t with | .fz d => Q (.fz d) env' | _ => False) E
theorem QP.val (h : QP X W M root e pa) : QE X W M e (sEP pa) := ⟨PE_imp h.run fun σ H Qv ⟨n, ow, env, Q, E, s, hq, k, x⟩ =>
  ⟨n, ow, env, _, E, s, hq, fun v t pt H' ow' env' y s' o r z => by
    cases t with
    | fz d =>
      obtain ⟨l, r'⟩ := r.ro s'
      exact k v (.fz d) H' ow' env' y s' o (Tq.fz_.mpr (Tq.fz_.mp r')) z
    | ow _ _ => exact z.elim
    | nd _ _ => exact z.elim, x⟩⟩

def sNm (i : Nat) : SemP := fun env Q _ => match env[i]? with
  | some (some t) => Q t [] env
  | _ => False
theorem p_nm (i : Nat) {x : Str} (hN : X.N[i]? = some x := by rfl) (hv : Vis X.env.scope x := by first | exact Or.inl rfl | exact Or.inr (Or.inl rfl) | exact Or.inr (Or.inr rfl)) (hd : (x == ("__debug__" : Str)) = false := by decide)
    (hcd : (x == ("__classdict__" : Str)) = false := by decide) : QP X W [] (some i) (.Name x pos) (sNm i) := ⟨PE_imp (pe_var (i := i) hN hv hd hcd) fun σ H Qv ⟨n, ow, env, Q, E, s, hq, k, _⟩ => by
  unfold sNm at hq
  split at hq
  · rename_i t e
    obtain ⟨v, e1, r⟩ := s.at_ i t e
    exact ⟨v, e1, k v t [] H ow env Stp.refl s Out.refl (.inr (.inr ⟨i, v, t, rfl, e1, e, .nil⟩)) hq⟩
  · exact hq.elim⟩
def sC (d : D) : SemE := fun env Q _ => Q (.fz d) env
theorem q_const {v : V} {d : D} (h : PE X e (tC v)) (r : ∀ B, Rp X.K B v d) : QE X W [] e (sC d) := ⟨PE_imp h fun σ H Qv ⟨n, ow, env, Q, E, s, hq, k, _⟩ =>
  k v (.fz d) H ow env Stp.refl s Out.refl (Tq.fz_.mpr (r _)) hq⟩
theorem q_int {i : Int} {j} : QE X W [] (.Constant (.int i) j pos) (sC (.int i)) := q_const pe_int fun _ => .int i
theorem q_bl {i : Bool} {j} : QE X W [] (.Constant (.bool i) j pos) (sC (.bl i)) := q_const pe_bl fun _ => .bl i
theorem q_non {j} : QE X W [] (.Constant .none j pos) (sC .non) := q_const pe_non fun _ => .non
theorem q_str {x : Str} {j} : QE X W [] (.Constant (.str x) j pos) (sC (.str x)) := q_const pe_str fun _ => .str x
def sFzN (i : Nat) : SemE := fun env Q _ => match env[i]? with
  | some (some t) => Q (.fz t.d) (env.set i (some (.fz t.d)))
  | _ => False
theorem q_fzn (i : Nat) {x : Str} (hN : X.N[i]? = some x := by rfl) (hv : Vis X.env.scope x := by first | exact Or.inl rfl | exact Or.inr (Or.inl rfl) | exact Or.inr (Or.inr rfl)) (hd : (x == ("__debug__" : Str)) = false := by decide)
    (hcd : (x == ("__classdict__" : Str)) = false := by decide) : QE X W [i] (.Name x pos) (sFzN i) := ⟨PE_imp (pe_var (i := i) hN hv hd hcd) fun σ H Qv ⟨n, ow, env, Q, E, s, hq, k, _⟩ => by
  unfold sFzN at hq
  split at hq
  · rename_i t e
    obtain ⟨v, e1, r⟩ := s.at_ i t e
    have y : Stp [i] n H ow H (Ow.mv ow (.sl i) .base) := Stp.mv (not_sl (by simp))
    have fr := r.frz (by exact fun z => nomatch z)
    have hi : i < env.length := (List.getElem?_eq_some_iff.mp e).1
    refine ⟨v, e1, k v (.fz t.d) H _ _ y (s.stp y (Out.set1) fun j u hj e' => ?_) Out.set1 (Tq.fz_.mpr fr) hq⟩
    have ej : j = i := by simpa using hj
    subst ej
    rw [List.getElem?_set_self hi] at e'
    cases e'
    exact ⟨v, e1, Tq.fz_.mpr fr⟩
  · exact hq.elim⟩
theorem two {K : PySem.W.Frag} {σ : L2.St} {H : Hp} {n : Nat} {ow : Ow} {env : Env} {R : T → T → Env → Prop} {E : XQ} {Qv : V → V → Hp → Prop} (hr : okR ra Mb = true) (s : StOk K H ow σ env) (hq : pa env (fun t _ env1 => pb env1 (fun u _ env2 => R t u env2) E) E)
    (k : ∀ x y t u H' ow' env', Stp (Ma ++ Mb) n H ow H' ow' → StOk K H' ow' σ env' → Out (Ma ++ Mb) env env' → Ro K H' ow' x t → Ro K H' ow' y u → R t u env' → Qv x y H') (x : Xk K W (Ma ++ Mb) σ H n ow env E) :
    tP K W Ma ra pa σ H fun x H1 => tP K W Mb rb pb σ H1 fun y H2 => Qv x y H2 := by
  refine ⟨n, ow, env, _, E, s, hq, fun v t pt H1 ow1 env1 y1 s1 o1 r1 q1 => ?_, fun r d H' ow' env' y s' o => x r d H' ow' env' (y.mono subl (Nat.le_refl _)) s' (o.mono subl)⟩
  refine ⟨n + 1, ow1, env1, _, E, s1, q1, fun w u pu H2 ow2 env2 y2 s2 o2 r2 q2 => ?_, x.step y1 o1 subl subr (Nat.le_refl _) (Nat.le_succ _)⟩
  exact k v w t u H2 ow2 env2 (y1.trans y2 subl subr (Nat.le_refl _) (Nat.le_succ _)) s2 (o1.trans o2 subl subr) ((r1.stp y2 o2 hr (Nat.lt_succ_self _)).ro s2) (r2.ro s2) q2
end
def Op2 (K : PySem.W.Frag) (r : R2) (g : T → T → (T → Prop) → Prop) : Prop := ∀ (H : Hp) (ow : Ow) (n : Nat) (x y : V) (t u : T) (Q : T → Prop) (Qv : VK), Ro K H ow x t → Ro K H ow y u → g t u Q →
  (∀ v w H' ow', Stp [] n H ow H' ow' → Tq K H' ow' (.tm n) v w → Q w → Qv v H') → r x y H Qv
def Op1 (K : PySem.W.Frag) (r : V → Hp → VK → Prop) (g : T → (T → Prop) → Prop) : Prop := ∀ (H : Hp) (ow : Ow) (n : Nat) (x : V) (t : T) (Q : T → Prop) (Qv : VK), Ro K H ow x t → g t Q →
  (∀ v w H' ow', Stp [] n H ow H' ow' → Tq K H' ow' (.tm n) v w → Q w → Qv v H') → r x H Qv
def s2 (pa pb : SemP) (g : T → T → (T → Prop) → Prop) : SemE := fun env Q E => pa env (fun t _ env1 => pb env1 (fun u _ env2 => g t u fun w => Q w env2) E) E
def s1 (pa : SemP) (g : T → (T → Prop) → Prop) : SemE := fun env Q E => pa env (fun t _ env1 => g t fun w => Q w env1) E
section
variable {X : Cx} {W : WX} {M Ma Mb : List Nat} {e a b : Expr} {pa pb : SemP} {ra rb root : Option Nat} {pos : Pos}
theorem op2_run {K : PySem.W.Frag} {r : R2} {g : T → T → (T → Prop) → Prop} (hg : Op2 K r g) (hr : okR ra Mb = true) {σ : L2.St} {H : Hp} {Qv : VK} (h : tQ K W (Ma ++ Mb) (s2 pa pb g) σ H Qv) : tOp r (tP K W Ma ra pa) (tP K W Mb rb pb) σ H Qv := by
  obtain ⟨n, ow, env, Q, E, s, hq, k, x⟩ := h
  refine two (R := fun t u env2 => g t u fun w => Q w env2) (E := E) (Qv := fun x y H2 => r x y H2 Qv) hr s hq (fun x' y t u H' ow' env' y1 s' o r1 r2 q => ?_) x
  refine hg H' ow' n x' y t u _ Qv r1 r2 q fun v w H2 ow2 y2 r3 q3 => ?_
  exact k v w H2 ow2 env' (y1.trans y2 (fun _ h => h) nilsub (Nat.le_refl _) (Nat.le_refl _)) (s'.stp0 y2) o r3 q3
theorem q_op {op : Operator} {r : R2} {g : T → T → (T → Prop) → Prop} (ho : OpR X (binaryOp op) r) (hg : Op2 X.K r g) (ha : QP X W Ma ra a pa) (hb : QP X W Mb rb b pb) (hr : okR ra Mb = true := by decide) : QE X W (Ma ++ Mb) (.BinOp a op b pos) (s2 pa pb g) :=
  ⟨PE_imp (pe_op ho ha.run hb.run) fun _ _ _ h => op2_run hg hr h⟩
theorem q_cmp {op : CmpOp} {r : R2} {g : T → T → (T → Prop) → Prop} (ho : OpR X (compareOp op) r) (hg : Op2 X.K r g) (ha : QP X W Ma ra a pa) (hb : QP X W Mb rb b pb) (hm : behindInMarks op b = false) (hr : okR ra Mb = true := by decide) : QE X W (Ma ++ Mb) (.Compare a [op] [b] pos) (s2 pa pb g) :=
  ⟨PE_imp (pe_cmpR ho ha.run hb.run hm) fun _ _ _ h => op2_run hg hr h⟩
theorem q_ixR {r : R2} {g : T → T → (T → Prop) → Prop} (ho : IxR X r) (hg : Op2 X.K r g) (ha : QP X W Ma ra a pa) (hb : QP X W Mb rb b pb) (hs : PlainIx b) (hr : okR ra Mb = true := by decide) : QE X W (Ma ++ Mb) (.Subscript a b pos) (s2 pa pb g) :=
  ⟨PE_imp (pe_ix ho ha.run hb.run hs) fun _ _ _ h => op2_run hg hr h⟩
theorem q_un {op : UnaryOp} {r : V → Hp → VK → Prop} {g : T → (T → Prop) → Prop} (ho : UnR X (unaryOp op) r) (hg : Op1 X.K r g) (ha : QP X W M root a pa) : QE X W M (.UnaryOp op a pos) (s1 pa g) :=
  ⟨PE_imp (pe_un ho ha.run) fun σ H Qv ⟨n, ow, env, Q, E, s, hq, k, x⟩ => ⟨n, ow, env, _, E, s, hq, fun v t pt H' ow' env' y1 s' o r q => hg H' ow' n v t _ Qv (r.ro s') q fun v' w H2 ow2 y2 r3 q3 =>
    k v' w H2 ow2 env' (y1.trans y2 (fun _ h => h) nilsub (Nat.le_refl _) (Nat.le_refl _)) (s'.stp0 y2) o r3 q3, x⟩⟩
end
end QV

set_option Elab.async false
set_option linter.all false
set_option maxRecDepth 100000
set_option maxHeartbeats 2000000
namespace QV
open PySem L2

mutual
def D.py : D → PyData
  | .non => .none
  | .bl b => .bool b
  | .int i => .int i
  | .str x => .str x
  | .nd .lst ds => .list (Dspy ds)
  | .nd .tup ds => .tuple (Dspy ds)
  | _ => .none
def Dspy : List D → List PyData
  | [] => []
  | d :: ds => D.py d :: Dspy ds
end
mutual
def D.pl : Nat → D → Bool
  | _, .non => true
  | _, .bl _ => true
  | _, .int _ => true
  | _, .str x => PyData.strOk x
  | 0, .nd _ _ => false
  | n + 1, .nd .lst ds => Dspl n ds
  | n + 1, .nd .tup ds => Dspl n ds
  | _, _ => false
def Dspl : Nat → List D → Bool
  | _, [] => true
  | n, d :: ds => D.pl n d && Dspl n ds
end
mutual
def eqD : D → D → Bool
  | .non, .non => true
  | .bl a, .bl b => decide (a = b)
  | .bl a, .int j => decide ((if a then 1 else 0) = j)
  | .int i, .bl b => decide (i = if b then 1 else 0)
  | .int i, .int j => decide (i = j)
  | .str x, .str y => decide (x = y)
  | .nd .lst xs, .nd .lst ys => eqDs xs ys
  | .nd .tup xs, .nd .tup ys => eqDs xs ys
  | _, _ => false
def eqDs : List D → List D → Bool
  | [], [] => true
  | x :: xs, y :: ys => eqD x y && eqDs xs ys
  | _, _ => false
end
mutual
theorem D.pl_lay : ∀ {n : Nat} (d : D), d.pl n = true → d.py.canLay0 = true ∧ d.py.depth ≤ n
  | n, .non, _ => ⟨rfl, by simp [D.py, PyData.depth]⟩
  | n, .bl b, _ => ⟨rfl, by simp [D.py, PyData.depth]⟩
  | n, .int i, _ => ⟨rfl, by simp [D.py, PyData.depth]⟩
  | n, .str x, h => ⟨by simpa [D.py, PyData.canLay0, D.pl] using h, by simp [D.py, PyData.depth]⟩
  | 0, .scr _, h => by simp [D.pl] at h
  | n + 1, .scr _, h => by simp [D.pl] at h
  | 0, .nd _ _, h => by simp [D.pl] at h
  | n + 1, .nd .lst ds, h => by
    have q := Dspl_lay (n := n) ds (by simpa [D.pl] using h)
    exact ⟨by simpa [D.py, PyData.canLay0] using q.1, by simpa [D.py, PyData.depth] using q.2⟩
  | n + 1, .nd .tup ds, h => by
    have q := Dspl_lay (n := n) ds (by simpa [D.pl] using h)
    exact ⟨by simpa [D.py, PyData.canLay0] using q.1, by simpa [D.py, PyData.depth] using q.2⟩
  | n + 1, .nd (.dK _) _, h => by simp [D.pl] at h
  | n + 1, .nd (.dT _) _, h => by simp [D.pl] at h
  | n + 1, .nd (.lkT _ _) _, h => by simp [D.pl] at h
  | n + 1, .nd (.lsA _) _, h => by simp [D.pl] at h
  | n + 1, .nd (.ins _ _) _, h => by simp [D.pl] at h
theorem Dspl_lay : ∀ {n : Nat} (ds : List D), Dspl n ds = true → PyData.canLayAll0 (Dspy ds) = true ∧ PyData.depthAll (Dspy ds) ≤ n
  | n, [], _ => ⟨by simp [Dspy, PyData.canLayAll0], by simp [Dspy, PyData.depthAll]⟩
  | n, d :: ds, h => by
    have h' : D.pl n d = true ∧ Dspl n ds = true := by simpa [Dspl] using h
    have q1 := D.pl_lay d h'.1
    have q2 := Dspl_lay ds h'.2
    refine ⟨by simp [Dspy, PyData.canLayAll0, q1.1, q2.1], ?_⟩
    have := q1.2
    have := q2.2
    simp only [Dspy, PyData.depthAll]
    omega
end
theorem D.pl_shaped {n : Nat} {d : D} (h : d.pl n = true) (hn : n ≤ 64) : SeqAt.shaped d.py = true := by
  have q := D.pl_lay d h
  unfold SeqAt.shaped
  rw [q.1, decide_eq_true (Nat.le_trans q.2 hn)]
  rfl
mutual
theorem eqD_py : ∀ {n m : Nat} (d e : D), d.pl n = true → e.pl m = true → eqD d e = PyData.eqv d.py e.py
  | n, m, .non, .non, _, _ => by simp [eqD, D.py, PyData.eqv]
  | n, m, .non, .bl _, _, _ => by simp [eqD, D.py, PyData.eqv]
  | n, m, .non, .int _, _, _ => by simp [eqD, D.py, PyData.eqv]
  | n, m, .non, .str _, _, _ => by simp [eqD, D.py, PyData.eqv]
  | n, m, .bl _, .non, _, _ => by simp [eqD, D.py, PyData.eqv]
  | n, m, .bl a, .bl b, _, _ => by simp only [eqD, D.py, PyData.eqv]; cases a <;> cases b <;> rfl
  | n, m, .bl a, .int j, _, _ => by simp only [eqD, D.py, PyData.eqv]; rw [Bool.beq_eq_decide_eq]
  | n, m, .bl _, .str _, _, _ => by simp [eqD, D.py, PyData.eqv]
  | n, m, .int _, .non, _, _ => by simp [eqD, D.py, PyData.eqv]
  | n, m, .int i, .bl b, _, _ => by simp only [eqD, D.py, PyData.eqv]; rw [Bool.beq_eq_decide_eq]
  | n, m, .int i, .int j, _, _ => by simp only [eqD, D.py, PyData.eqv]; rw [Bool.beq_eq_decide_eq]
  | n, m, .int _, .str _, _, _ => by simp [eqD, D.py, PyData.eqv]
  | n, m, .str _, .non, _, _ => by simp [eqD, D.py, PyData.eqv]
  | n, m, .str _, .bl _, _, _ => by simp [eqD, D.py, PyData.eqv]
  | n, m, .str _, .int _, _, _ => by simp [eqD, D.py, PyData.eqv]
  | n, m, .str x, .str y, _, _ => by simp only [eqD, D.py, PyData.eqv]; rw [Bool.beq_eq_decide_eq]
  | n + 1, m + 1, .nd .lst xs, .nd .lst ys, h, k => by simpa [eqD, D.py, PyData.eqv] using eqDs_py xs ys (by simpa [D.pl] using h) (by simpa [D.pl] using k)
  | n + 1, m + 1, .nd .tup xs, .nd .tup ys, h, k => by simpa [eqD, D.py, PyData.eqv] using eqDs_py xs ys (by simpa [D.pl] using h) (by simpa [D.pl] using k)
  | n + 1, m + 1, .nd .lst xs, .nd .tup ys, _, _ => by simp [eqD, D.py, PyData.eqv]
  | n + 1, m + 1, .nd .tup xs, .nd .lst ys, _, _ => by simp [eqD, D.py, PyData.eqv]
  | n, m, .scr _, _, h, _ => by cases n <;> simp [D.pl] at h
  | n, m, _, .scr _, _, h => by cases m <;> simp [D.pl] at h
  | 0, m, .nd _ _, _, h, _ => by simp [D.pl] at h
  | n, 0, _, .nd _ _, _, h => by simp [D.pl] at h
  | n + 1, m, .nd (.dK _) _, _, h, _ => by simp [D.pl] at h
  | n + 1, m, .nd (.dT _) _, _, h, _ => by simp [D.pl] at h
  | n + 1, m, .nd (.lkT _ _) _, _, h, _ => by simp [D.pl] at h
  | n + 1, m, .nd (.lsA _) _, _, h, _ => by simp [D.pl] at h
  | n + 1, m, .nd (.ins _ _) _, _, h, _ => by simp [D.pl] at h
  | n, m + 1, _, .nd (.dK _) _, _, h => by simp [D.pl] at h
  | n, m + 1, _, .nd (.dT _) _, _, h => by simp [D.pl] at h
  | n, m + 1, _, .nd (.lkT _ _) _, _, h => by simp [D.pl] at h
  | n, m + 1, _, .nd (.lsA _) _, _, h => by simp [D.pl] at h
  | n, m + 1, _, .nd (.ins _ _) _, _, h => by simp [D.pl] at h
  | n + 1, m, .nd .lst _, .non, _, _ => by simp [eqD, D.py, PyData.eqv]
  | n + 1, m, .nd .lst _, .bl _, _, _ => by simp [eqD, D.py, PyData.eqv]
  | n + 1, m, .nd .lst _, .int _, _, _ => by simp [eqD, D.py, PyData.eqv]
  | n + 1, m, .nd .lst _, .str _, _, _ => by simp [eqD, D.py, PyData.eqv]
  | n + 1, m, .nd .tup _, .non, _, _ => by simp [eqD, D.py, PyData.eqv]
  | n + 1, m, .nd .tup _, .bl _, _, _ => by simp [eqD, D.py, PyData.eqv]
  | n + 1, m, .nd .tup _, .int _, _, _ => by simp [eqD, D.py, PyData.eqv]
  | n + 1, m, .nd .tup _, .str _, _, _ => by simp [eqD, D.py, PyData.eqv]
  | n, m + 1, .non, .nd .lst _, _, _ => by simp [eqD, D.py, PyData.eqv]
  | n, m + 1, .bl _, .nd .lst _, _, _ => by simp [eqD, D.py, PyData.eqv]
  | n, m + 1, .int _, .nd .lst _, _, _ => by simp [eqD, D.py, PyData.eqv]
  | n, m + 1, .str _, .nd .lst _, _, _ => by simp [eqD, D.py, PyData.eqv]
  | n, m + 1, .non, .nd .tup _, _, _ => by simp [eqD, D.py, PyData.eqv]
  | n, m + 1, .bl _, .nd .tup _, _, _ => by simp [eqD, D.py, PyData.eqv]
  | n, m + 1, .int _, .nd .tup _, _, _ => by simp [eqD, D.py, PyData.eqv]
  | n, m + 1, .str _, .nd .tup _, _, _ => by simp [eqD, D.py, PyData.eqv]
theorem eqDs_py : ∀ {n m : Nat} (ds es : List D), Dspl n ds = true → Dspl m es = true → eqDs ds es = PyData.eqvAll (Dspy ds) (Dspy es)
  | n, m, [], [], _, _ => by simp [eqDs, Dspy, PyData.eqvAll]
  | n, m, [], _ :: _, _, _ => by simp [eqDs, Dspy, PyData.eqvAll]
  | n, m, _ :: _, [], _, _ => by simp [eqDs, Dspy, PyData.eqvAll]
  | n, m, d :: ds, e :: es, h, k => by
    have h' : D.pl n d = true ∧ Dspl n ds = true := by simpa [Dspl] using h
    have k' : D.pl m e = true ∧ Dspl m es = true := by simpa [Dspl] using k
    simp only [eqDs, Dspy, PyData.eqvAll, eqD_py d e h'.1 k'.1, eqDs_py ds es h'.2 k'.2]
end
section
variable {K : PySem.W.Frag} {H : Hp} {ow : Ow} {B : Hp}
mutual
theorem Rp.dp : ∀ {n : Nat} {v : V} (d : D), Rp K B v d → d.pl n = true → Dp K B v d.py
  | n, _, .non, h, _ => by cases h; exact .non
  | n, _, .bl b, h, _ => by cases h; exact .bl b
  | n, _, .int b, h, _ => by cases h; exact .int b
  | n, _, .str b, h, _ => by cases h; exact .str b
  | 0, _, .scr _, _, h => by simp [D.pl] at h
  | n + 1, _, .scr _, _, h => by simp [D.pl] at h
  | 0, _, .nd _ _, _, h => by simp [D.pl] at h
  | n + 1, _, .nd .lst ds, h, k => by
    cases h with
    | cell _ c r => exact .lst (.inl (.inl c.at_)) (Rps.dp (n := n) ds r (by simpa [D.pl] using k))
  | n + 1, _, .nd .tup ds, h, k => by
    cases h with
    | tup c _ r => exact .tup (sqT_of c) (Rps.dp (n := n) ds r (by simpa [D.pl] using k))
    | cell hn _ _ => exact absurd rfl hn
  | n + 1, _, .nd (.dK _) _, _, h => by simp [D.pl] at h
  | n + 1, _, .nd (.dT _) _, _, h => by simp [D.pl] at h
  | n + 1, _, .nd (.lkT _ _) _, _, h => by simp [D.pl] at h
  | n + 1, _, .nd (.lsA _) _, _, h => by simp [D.pl] at h
  | n + 1, _, .nd (.ins _ _) _, _, h => by simp [D.pl] at h
theorem Rps.dp : ∀ {n : Nat} {vs : List V} (ds : List D), Rps K B vs ds → Dspl n ds = true → DpAll K B vs (Dspy ds)
  | n, _, [], h, _ => by cases h; exact .nil
  | n, _, d :: ds, h, k => by
    cases h with
    | cons r s =>
      have k' : D.pl n d = true ∧ Dspl n ds = true := by simpa [Dspl] using k
      exact .cons (Rp.dp d r k'.1) (Rps.dp ds s k'.2)
end
def shL : T → Option (List D)
  | .fz (.nd .lst ds) => some ds
  | .ow .lst ds => some ds
  | _ => none
def shT : T → Option (List D)
  | .fz (.nd .tup ds) => some ds
  | .ow .tup ds => some ds
  | _ => none
theorem Ro.int {x : V} {i : Int} (h : Ro K H ow x (.fz (.int i))) : x = .int i := by
  have := h.rd; cases this; rfl
theorem Ro.str {x : V} {i : Str} (h : Ro K H ow x (.fz (.str i))) : x = .str i := by
  have := h.rd; cases this; rfl
theorem Ro.bl {x : V} {i : Bool} (h : Ro K H ow x (.fz (.bl i))) : x = .bl i := by
  have := h.rd; cases this; rfl
theorem Ro.non {x : V} (h : Ro K H ow x (.fz .non)) : x = .non := by
  have := h.rd; cases this; rfl
theorem Ro.lst {x : V} {t : T} {ds : List D} (h : Ro K H ow x t) (e : shL t = some ds) : ∃ a vs, x = .ref a ∧ H a = some (.lst vs) ∧ vs.length ≤ sizeLine ∧ Rps K (Bs H ow) vs ds := by
  unfold shL at e
  split at e
  · cases e
    obtain ⟨l, h⟩ := h
    cases Tq.fz_.mp h with
    | cell _ c r => exact ⟨_, _, rfl, bs_same H ow _ _ c.at_, c.sz, r⟩
  · cases e
    obtain ⟨l, S, h⟩ := h
    cases h with
    | ow c _ r => exact ⟨_, _, rfl, c.at_, c.sz, r⟩
  · cases e
theorem Ro.tup {x : V} {t : T} {ds : List D} (h : Ro K H ow x t) (e : shT t = some ds) : ∃ a vs, x = .ref a ∧ SqT K H a vs ∧ vs.length ≤ sizeLine ∧ Rps K (Bs H ow) vs ds := by
  unfold shT at e
  split at e
  · cases e
    obtain ⟨l, h⟩ := h
    cases Tq.fz_.mp h with
    | tup c z r => exact ⟨_, _, rfl, sqT_of (bs_same H ow _ _ c), z, r⟩
    | cell hn _ _ => exact absurd rfl hn
  · cases e
    obtain ⟨l, S, h⟩ := h
    cases h with
    | ow c _ r => exact ⟨_, _, rfl, .inl (.inl c.at_), c.sz, r⟩
  · cases e
end

def intG (C : Int → Int → Prop) (g : Int → Int → D) (t u : T) (Q : T → Prop) : Prop := match t, u with
  | .fz (.int i), .fz (.int j) => C i j ∧ Q (.fz (g i j))
  | _, _ => False
def int0G (g : Int → Int → D) (t u : T) (Q : T → Prop) : Prop := match t, u with
  | .fz (.int i), .fz (.int j) => Q (.fz (g i j))
  | _, _ => False
section
variable {K : PySem.W.Frag}
theorem g_int {C : Int → Int → Prop} {f : Int → Int → V} {g : Int → Int → D} (hf : ∀ B i j, Rp K B (f i j) (g i j)) : Op2 K (rI C f) (intG C g) := by
  intro H ow n x y t u Q Qv rx ry h k
  unfold intG at h
  split at h
  · exact ⟨_, _, rx.int, ry.int, h.1, k _ _ H ow Stp.refl (Tq.fz_.mpr (hf _ _ _)) h.2⟩
  · exact h.elim
theorem g_int0 {f : Int → Int → V} {g : Int → Int → D} (hf : ∀ B i j, Rp K B (f i j) (g i j)) : Op2 K (rI0 f) (int0G g) := by
  intro H ow n x y t u Q Qv rx ry h k
  unfold int0G at h
  split at h
  · exact ⟨_, _, rx.int, ry.int, k _ _ H ow Stp.refl (Tq.fz_.mpr (hf _ _ _)) h⟩
  · exact h.elim
def addG (t u : T) (Q : T → Prop) : Prop := match t, u with
  | .fz (.int i), .fz (.int j) => Q (.fz (.int (i + j)))
  | .fz (.str a), .fz (.str b) => a.length + b.length ≤ sizeLine ∧ Q (.fz (.str (a ++ b)))
  | .fz (.nd .tup ds), .fz (.nd .tup es) => ds.length + es.length ≤ sizeLine ∧ Q (.fz (.nd .tup (ds ++ es)))
  | .fz (.nd .lst ds), .fz (.nd .lst es) => ds.length + es.length ≤ sizeLine ∧ Q (.ow .lst (ds ++ es))
  | .fz (.nd .lst ds), .ow .lst es => ds.length + es.length ≤ sizeLine ∧ Q (.ow .lst (ds ++ es))
  | .ow .lst ds, .fz (.nd .lst es) => ds.length + es.length ≤ sizeLine ∧ Q (.ow .lst (ds ++ es))
  | .ow .lst ds, .ow .lst es => ds.length + es.length ≤ sizeLine ∧ Q (.ow .lst (ds ++ es))
  | _, _ => False
def rAddAll (K : PySem.W.Frag) : R2 := fun x y H Q => rI0 (fun i j => .int (i + j)) x y H Q ∨ (∃ i j, x = .str i ∧ y = .str j ∧ i.length + j.length ≤ sizeLine ∧ Q (.str (i ++ j)) H) ∨ rCatA K x y H Q ∨ rCat x y H Q
theorem op_addAll {X : Cx} : OpR X (binaryOp .Add) (rAddAll X.K) := op_add.or (op_add_str.or (op_catA.or op_cat))
theorem cat_of {H : Hp} {ow : Ow} {n : Nat} {x y : V} {t u : T} {ds es : List D} {Q : T → Prop} {Qv : VK} (rx : Ro K H ow x t) (ry : Ro K H ow y u) (ht : shL t = some ds) (hu : shL u = some es) (hz : ds.length + es.length ≤ sizeLine) (q : Q (.ow .lst (ds ++ es)))
    (k : ∀ v w H' ow', Stp [] n H ow H' ow' → Tq K H' ow' (.tm n) v w → Q w → Qv v H') : rCat x y H Qv := by
  obtain ⟨a, vs, e1, h1, z1, r1⟩ := rx.lst ht
  obtain ⟨b, ws, e2, h2, z2, r2⟩ := ry.lst hu
  have l1 := r1.len
  have l2 := r2.len
  refine ⟨a, b, vs, ws, e1, e2, h1, h2, by omega, fun p hp => k _ _ _ (Ow.put ow p (.tm n)) (Stp.new hp) (Tq.newL hp (by rw [List.length_append]; omega) (r1.app r2)) q⟩
theorem g_add : Op2 K (rAddAll K) addG := by
  intro H ow n x y t u Q Qv rx ry h k
  unfold addG at h
  split at h
  · exact .inl ⟨_, _, rx.int, ry.int, k _ _ H ow Stp.refl (Tq.fz_.mpr (.int _)) h⟩
  · exact .inr (.inl ⟨_, _, rx.str, ry.str, h.1, k _ _ H ow Stp.refl (Tq.fz_.mpr (.str _)) h.2⟩)
  · rename_i ds es
    obtain ⟨a, vs, e1, h1, z1, r1⟩ := rx.tup rfl
    obtain ⟨b, ws, e2, h2, z2, r2⟩ := ry.tup rfl
    have l1 := r1.len
    have l2 := r2.len
    refine .inr (.inr (.inl ⟨a, b, vs, ws, e1, e2, h1, h2, by omega, fun z => ?_, fun _ z => ?_, fun _ _ p hp => ?_⟩))
    · subst z
      cases ds with
      | cons _ _ => simp at l1
      | nil =>
        have h3 := h.2
        rw [List.nil_append] at h3
        subst e2
        exact k _ _ H ow Stp.refl (by obtain ⟨l, ry⟩ := ry; exact Tq.fz_.mpr (Tq.fz_.mp ry)) h3
    · subst z
      cases es with
      | cons _ _ => simp at l2
      | nil =>
        have h3 := h.2
        rw [List.append_nil] at h3
        subst e1
        exact k _ _ H ow Stp.refl (by obtain ⟨l, rx⟩ := rx; exact Tq.fz_.mpr (Tq.fz_.mp rx)) h3
    · have y1 : Stp [] n H ow (upd H p (.tup (vs ++ ws))) (Ow.put ow p (.tm n)) := Stp.new hp
      have q1 := Tq.newT (K := K) (l := .tm n) (vs := vs ++ ws) hp (by rw [List.length_append]; omega) (r1.app r2)
      have y2 : Stp [] n (upd H p (.tup (vs ++ ws))) (Ow.put ow p (.tm n)) (upd H p (.tup (vs ++ ws))) (Ow.mv (Ow.put ow p (.tm n)) (.tm n) .base) := Stp.mv not_tm
      exact k _ _ _ _ (y1.trans y2 (fun _ h => h) (fun _ h => h) (Nat.le_refl _) (Nat.le_refl _)) (Tq.fz_.mpr (q1.frz fun z => nomatch z)) h.2
  · exact .inr (.inr (.inr (cat_of rx ry rfl rfl h.1 h.2 k)))
  · exact .inr (.inr (.inr (cat_of rx ry rfl rfl h.1 h.2 k)))
  · exact .inr (.inr (.inr (cat_of rx ry rfl rfl h.1 h.2 k)))
  · exact .inr (.inr (.inr (cat_of rx ry rfl rfl h.1 h.2 k)))
  · exact h.elim
end
end QV

set_option Elab.async false
set_option linter.all false
set_option maxRecDepth 100000
set_option maxHeartbeats 2000000
namespace QV
open PySem L2

def scD : D → D → Bool
  | .non, .non => true | .non, .int _ => true | .int _, .non => true | .non, .bl _ => true | .bl _, .non => true | .non, .str _ => true | .str _, .non => true
  | .int _, .int _ => true | .bl _, .bl _ => true | .str _, .str _ => true
  | .int _, .str _ => true | .str _, .int _ => true | .bl _, .str _ => true | .str _, .bl _ => true
  | _, _ => false
def flD : D → Bool
  | .non => true
  | .bl _ => true
  | .int _ => true
  | .str _ => true
  | _ => false
section
variable {K : PySem.W.Frag} {B : Hp} {x y : V} {d e : D}
theorem sc_eq (rx : Rp K B x d) (ry : Rp K B y e) (h : scD d e = true) : scal x y = true ∧ decide (x = y) = eqD d e := by
  cases rx <;> cases ry <;> simp [scD] at h <;> simp [scal, eqD]
theorem fl_V (rx : Rp K B x d) (h : flD d = true) : flatV x = true := by
  cases rx <;> simp [flD] at h <;> rfl
theorem fl_eq (rx : Rp K B x d) (ry : Rp K B y e) (h : flD d = true) (h' : flD e = true) : eqV x y = eqD d e := by
  cases rx <;> cases ry <;> simp [flD] at h h' <;> simp [eqV, eqD, Bool.beq_eq_decide_eq]
theorem fl_all : ∀ {vs : List V} {ds : List D}, Rps K B vs ds → ds.all flD = true → vs.all flatV = true
  | _, _, .nil, _ => rfl
  | _, _, .cons r s, h => by
    rw [List.all_cons, Bool.and_eq_true] at h
    rw [List.all_cons, fl_V r h.1, fl_all s h.2]
    rfl
theorem fl_any (rx : Rp K B x d) (h : flD d = true) : ∀ {vs : List V} {ds : List D}, Rps K B vs ds → ds.all flD = true → inV x vs = ds.any fun z => eqD z d
  | _, _, .nil, _ => rfl
  | _, _, .cons r s, k => by
    rw [List.all_cons, Bool.and_eq_true] at k
    show ((eqV _ x) || inV x _) = _
    rw [List.any_cons, fl_eq r rx k.1 h, fl_any rx h s k.2]
theorem pl_any {n m : Nat} (h : d.pl n = true) : ∀ ds : List D, Dspl m ds = true → ((Dspy ds).any fun z => PyData.eqv z d.py) = ds.any fun z => eqD z d
  | [], _ => rfl
  | e :: ds, k => by
    have k' : D.pl m e = true ∧ Dspl m ds = true := by simpa [Dspl] using k
    show (PyData.eqv e.py d.py || (Dspy ds).any fun z => PyData.eqv z d.py) = (eqD e d || ds.any fun z => eqD z d)
    rw [eqD_py e d k'.1 h, pl_any h ds k'.2]
end
def eqG (neg : Bool) (t u : T) (Q : T → Prop) : Prop := (scD t.d u.d = true ∨ (t.d.pl 64 = true ∧ u.d.pl 64 = true)) ∧ Q (.fz (.bl (if neg then !eqD t.d u.d else eqD t.d u.d)))
def inG (neg : Bool) (t u : T) (Q : T → Prop) : Prop := match u with
  | .fz (.nd .lst es) => ((flD t.d && es.all flD) = true ∨ (t.d.pl 63 = true ∧ Dspl 63 es = true)) ∧ Q (.fz (.bl (if neg then !es.any (fun z => eqD z t.d) else es.any fun z => eqD z t.d)))
  | .ow .lst es => ((flD t.d && es.all flD) = true ∨ (t.d.pl 63 = true ∧ Dspl 63 es = true)) ∧ Q (.fz (.bl (if neg then !es.any (fun z => eqD z t.d) else es.any fun z => eqD z t.d)))
  | .fz (.nd .tup es) => (flD t.d && es.all flD) = true ∧ Q (.fz (.bl (if neg then !es.any (fun z => eqD z t.d) else es.any fun z => eqD z t.d)))
  | .ow .tup es => (flD t.d && es.all flD) = true ∧ Q (.fz (.bl (if neg then !es.any (fun z => eqD z t.d) else es.any fun z => eqD z t.d)))
  | .fz (.str z) => ∃ c, t = .fz (.str ⟨#[c]⟩) ∧ Q (.fz (.bl (if neg then !decide (c ∈ z.cps.toList) else decide (c ∈ z.cps.toList))))
  | _ => False
def nonD : D → Bool
  | .non => true
  | _ => false
def isNG (neg : Bool) (t u : T) (Q : T → Prop) : Prop := match u with
  | .fz .non => Q (.fz (.bl (if neg then !nonD t.d else nonD t.d)))
  | _ => False
section
variable {K : PySem.W.Frag} {X : Cx}
def rEqAll (K : PySem.W.Frag) : R2 := fun x y H Q => rEq x y H Q ∨ rEqD K x y H Q
def rNeAll (K : PySem.W.Frag) : R2 := fun x y H Q => rNe x y H Q ∨ rNeD K x y H Q
theorem op_eqAll (hu : X.A.units + 64 < cLine) : OpR X (compareOp .Eq) (rEqAll X.K) := op_eq.or (op_eqD hu)
theorem op_neAll (hu : X.A.units + 64 < cLine) : OpR X (compareOp .NotEq) (rNeAll X.K) := op_ne.or (op_neD hu)
theorem g_eq : Op2 K (rEqAll K) (eqG false) := by
  intro H ow n x y t u Q Qv rx ry h k
  obtain ⟨h | h, q⟩ := h
  · obtain ⟨e1, e2⟩ := sc_eq rx.rd ry.rd h
    exact .inl ⟨e1, k _ _ H ow Stp.refl (Tq.fz_.mpr (by rw [e2]; exact .bl _)) q⟩
  · exact .inr ⟨_, _, rx.rd.dp _ h.1, ry.rd.dp _ h.2, D.pl_shaped h.1 (Nat.le_refl _), D.pl_shaped h.2 (Nat.le_refl _), k _ _ H ow Stp.refl (Tq.fz_.mpr (by rw [← eqD_py _ _ h.1 h.2]; exact .bl _)) q⟩
theorem g_ne : Op2 K (rNeAll K) (eqG true) := by
  intro H ow n x y t u Q Qv rx ry h k
  obtain ⟨h | h, q⟩ := h
  · obtain ⟨e1, e2⟩ := sc_eq rx.rd ry.rd h
    exact .inl ⟨e1, k _ _ H ow Stp.refl (Tq.fz_.mpr (by rw [e2]; exact .bl _)) q⟩
  · exact .inr ⟨_, _, rx.rd.dp _ h.1, ry.rd.dp _ h.2, D.pl_shaped h.1 (Nat.le_refl _), D.pl_shaped h.2 (Nat.le_refl _), k _ _ H ow Stp.refl (Tq.fz_.mpr (by rw [← eqD_py _ _ h.1 h.2]; exact .bl _)) q⟩
def rInAll (K : PySem.W.Frag) (neg : Bool) : R2 := fun x y H Q => rIn K neg x y H Q ∨ (∃ d ds, Dp K H x d ∧ Dp K H y (.list ds) ∧ SeqAt.shaped d = true ∧ SeqAt.shaped (.list ds) = true ∧ Q (.bl (if neg then !ds.any (fun z => PyData.eqv z d) else ds.any fun z => PyData.eqv z d)) H) ∨
  (∃ (c : Nat) (z : Str), x = .str ⟨#[c]⟩ ∧ y = .str z ∧ Q (.bl (if neg then !decide (c ∈ z.cps.toList) else decide (c ∈ z.cps.toList))) H)
theorem g_in (neg : Bool) : Op2 K (rInAll K neg) (inG neg) := by
  intro H ow n x y t u Q Qv rx ry h k
  have lst : ∀ {es : List D}, shL u = some es → u.d = .nd .lst es → ((flD t.d && es.all flD) = true ∨ (t.d.pl 63 = true ∧ Dspl 63 es = true)) ∧ Q (.fz (.bl (if neg then !es.any (fun z => eqD z t.d) else es.any fun z => eqD z t.d))) → rInAll K neg x y H Qv := fun {es} e1 e2 hq => by
    obtain ⟨a, vs, rfl, h1, z1, r1⟩ := ry.lst e1
    obtain ⟨hc | hc, q⟩ := hq
    · rw [Bool.and_eq_true] at hc
      refine .inl ⟨a, vs, rfl, .inl (.inl (.inl h1)), fl_V rx.rd hc.1, fl_all r1 hc.2, k _ _ H ow Stp.refl (Tq.fz_.mpr ?_) q⟩
      rw [fl_any rx.rd hc.1 (r1.mono (bs_same H ow)) hc.2]
      exact .bl _
    · have p1 : (D.nd .lst es).pl 64 = true := by simpa [D.pl] using hc.2
      have hy := ry.rd
      rw [e2] at hy
      have d1 := hy.dp _ p1
      have s1 := D.pl_shaped p1 (Nat.le_refl _)
      refine .inr (.inl ⟨t.d.py, Dspy es, rx.rd.dp _ hc.1, by simpa [D.py] using d1, D.pl_shaped hc.1 (by decide), by simpa [D.py] using s1, k _ _ H ow Stp.refl (Tq.fz_.mpr ?_) q⟩)
      rw [pl_any hc.1 es hc.2]
      exact .bl _
  have tup : ∀ {es : List D}, shT u = some es → (flD t.d && es.all flD) = true ∧ Q (.fz (.bl (if neg then !es.any (fun z => eqD z t.d) else es.any fun z => eqD z t.d))) → rInAll K neg x y H Qv := fun {es} e1 hq => by
    obtain ⟨a, vs, rfl, h1, z1, r1⟩ := ry.tup e1
    obtain ⟨hc, q⟩ := hq
    rw [Bool.and_eq_true] at hc
    refine .inl ⟨a, vs, rfl, .inr h1, fl_V rx.rd hc.1, fl_all r1 hc.2, k _ _ H ow Stp.refl (Tq.fz_.mpr ?_) q⟩
    rw [fl_any rx.rd hc.1 (r1.mono (bs_same H ow)) hc.2]
    exact .bl _
  unfold inG at h
  split at h
  · exact lst rfl rfl h
  · exact lst rfl rfl h
  · exact tup rfl h
  · exact tup rfl h
  · obtain ⟨c, rfl, h⟩ := h
    exact .inr (.inr ⟨_, _, rx.str, ry.str, k _ _ H ow Stp.refl (Tq.fz_.mpr (.bl _)) h⟩)
  · exact h.elim
theorem op_niAll (hu : X.A.units + 65 < cLine) : OpR X (compareOp .NotIn) (rInAll X.K true) :=
  op_notIn_seq.or (OpR.or (op_notInD hu) fun pins s σ H x y v u Q I rx ry ⟨c, z, e1, e2, q⟩ => op_notIn_sign pins s σ H x y v u Q I rx ry ⟨c, z, e1, e2, q⟩)
theorem non_iff {B : Hp} {x : V} {d : D} (r : Rp K B x d) : decide (x = .non) = nonD d := by
  cases r <;> simp [nonD]
theorem g_isN : Op2 K (fun x y H Q => y = .non ∧ Q (.bl (decide (x = .non))) H) (isNG false) := by
  intro H ow n x y t u Q Qv rx ry h k
  unfold isNG at h
  split at h
  · refine ⟨ry.non, k _ _ H ow Stp.refl (Tq.fz_.mpr (.bl _)) ?_⟩
    rw [non_iff rx.rd]
    exact h
  · exact h.elim
def ixG (t u : T) (Q : T → Prop) : Prop := match u with
  | .fz (.int i) => match t with
    | .fz (.nd .lst ds) => ∃ d, atI ds i = some d ∧ Q (.fz d)
    | .ow .lst ds => ∃ d, atI ds i = some d ∧ Q (.fz d)
    | .fz (.nd .tup ds) => ∃ d, atI ds i = some d ∧ Q (.fz d)
    | .ow .tup ds => ∃ d, atI ds i = some d ∧ Q (.fz d)
    | .fz (.str z) => z.length ≤ sizeLine ∧ ∃ c, atI z.cps.toList i = some c ∧ Q (.fz (.str ⟨#[c]⟩))
    | _ => False
  | _ => False
theorem Rps.atI {B : Hp} {vs : List V} {ds : List D} {i : Int} {d : D} (r : Rps K B vs ds) (h : L2.atI ds i = some d) : ∃ v, L2.atI vs i = some v ∧ Rp K B v d := by
  unfold L2.atI at h ⊢
  rw [r.len]
  cases e : ixN ds.length i with
  | none => rw [e] at h; cases h
  | some j =>
    rw [e] at h
    obtain ⟨v, h1, h2⟩ := r.get (i := j) (d := d) h
    exact ⟨v, h1, h2⟩
theorem g_ix : Op2 K (rIx K) ixG := by
  intro H ow n x y t u Q Qv rx ry h k
  have lst : ∀ {i : Int} {ds : List D}, y = .int i → shL t = some ds → (∃ d, atI ds i = some d ∧ Q (.fz d)) → rIx K x y H Qv := fun {i ds} ei e hd => by
    obtain ⟨d, hd, q⟩ := hd
    obtain ⟨a, vs, rfl, h1, z1, r1⟩ := rx.lst e
    obtain ⟨v, e1, r2⟩ := r1.atI hd
    exact .inl ⟨a, vs, i, v, rfl, ei, .inl (.inl h1), e1, k _ _ H ow Stp.refl (Tq.fz_.mpr r2) q⟩
  have tup : ∀ {i : Int} {ds : List D}, y = .int i → shT t = some ds → (∃ d, atI ds i = some d ∧ Q (.fz d)) → rIx K x y H Qv := fun {i ds} ei e hd => by
    obtain ⟨d, hd, q⟩ := hd
    obtain ⟨a, vs, rfl, h1, z1, r1⟩ := rx.tup e
    obtain ⟨v, e1, r2⟩ := r1.atI hd
    exact .inr (.inl ⟨a, vs, i, v, rfl, ei, h1, e1, k _ _ H ow Stp.refl (Tq.fz_.mpr r2) q⟩)
  unfold ixG at h
  split at h
  · have ei := ry.int
    split at h
    · exact lst ei rfl h
    · exact lst ei rfl h
    · exact tup ei rfl h
    · exact tup ei rfl h
    · obtain ⟨hz, c, hc, q⟩ := h
      exact .inr (.inr ⟨_, _, c, rx.str, ei, hz, hc, k _ _ H ow Stp.refl (Tq.fz_.mpr (.str _)) q⟩)
    · exact h.elim
  · exact h.elim
end

section
variable {X : Cx} {W : WX} {M Ma Mb Mc : List Nat} {e a b c : Expr} {pa pb pc : SemP} {qa qb qc : SemE} {ra rb rc root : Option Nat} {pos : Pos}
theorem q_add (ha : QP X W Ma ra a pa) (hb : QP X W Mb rb b pb) (hr : okR ra Mb = true := by decide) : QE X W (Ma ++ Mb) (.BinOp a .Add b pos) (s2 pa pb addG) := q_op op_addAll g_add ha hb hr
theorem q_sub (ha : QP X W Ma ra a pa) (hb : QP X W Mb rb b pb) (hr : okR ra Mb = true := by decide) : QE X W (Ma ++ Mb) (.BinOp a .Sub b pos) (s2 pa pb (int0G fun i j => .int (i - j))) := q_op op_sub (g_int0 fun _ _ _ => .int _) ha hb hr
theorem q_mul (ha : QP X W Ma ra a pa) (hb : QP X W Mb rb b pb) (hr : okR ra Mb = true := by decide) : QE X W (Ma ++ Mb) (.BinOp a .Mult b pos) (s2 pa pb (intG CMul fun i j => .int (i * j))) := q_op op_mul (g_int fun _ _ _ => .int _) ha hb hr
theorem q_fdiv (ha : QP X W Ma ra a pa) (hb : QP X W Mb rb b pb) (hr : okR ra Mb = true := by decide) : QE X W (Ma ++ Mb) (.BinOp a .FloorDiv b pos) (s2 pa pb (intG CDivW fun i j => .int (i / j))) := q_op op_fdivW (g_int fun _ _ _ => .int _) ha hb hr
theorem q_mod (ha : QP X W Ma ra a pa) (hb : QP X W Mb rb b pb) (hr : okR ra Mb = true := by decide) : QE X W (Ma ++ Mb) (.BinOp a .Mod b pos) (s2 pa pb (intG (fun _ j => 0 < j) fun i j => .int (i % j))) := q_op op_mod (g_int fun _ _ _ => .int _) ha hb hr
theorem q_pow (ha : QP X W Ma ra a pa) (hb : QP X W Mb rb b pb) (hr : okR ra Mb = true := by decide) : QE X W (Ma ++ Mb) (.BinOp a .Pow b pos) (s2 pa pb (intG CPow fun i j => .int (i ^ j.toNat))) := q_op op_pow (g_int fun _ _ _ => .int _) ha hb hr
theorem q_neg (ha : QP X W M root a pa) : QE X W M (.UnaryOp .USub a pos) (s1 pa fun t Q => match t with | .fz (.int i) => Q (.fz (.int (-i))) | _ => False) := q_un un_neg (fun H ow n x t Q Qv rx h k => by
  split at h
  · exact ⟨_, rx.int, k _ _ H ow Stp.refl (Tq.fz_.mpr (.int _)) h⟩
  · exact h.elim) ha
theorem q_lt (ha : QP X W Ma ra a pa) (hb : QP X W Mb rb b pb) (hr : okR ra Mb = true := by decide) : QE X W (Ma ++ Mb) (.Compare a [.Lt] [b] pos) (s2 pa pb (int0G fun i j => .bl (decide (i < j)))) := q_cmp op_lt (g_int0 fun _ _ _ => .bl _) ha hb (nomark _) hr
theorem q_eq (hu : X.A.units + 65 < cLine) (ha : QP X W Ma ra a pa) (hb : QP X W Mb rb b pb) (hr : okR ra Mb = true := by decide) : QE X W (Ma ++ Mb) (.Compare a [.Eq] [b] pos) (s2 pa pb (eqG false)) := q_cmp (op_eqAll (by omega)) g_eq ha hb (nomark _) hr
end
end QV

set_option Elab.async false
set_option linter.all false
set_option maxRecDepth 100000
set_option maxHeartbeats 2000000
namespace QV
open PySem L2

def sT (q : SemE) : SemT := fun env Q E => q env (fun w env' => match w with
  | .fz (.bl b) => Q b env'
  | _ => False) E
def sAnd (qa qb : SemT) : SemT := fun env Q E => qa env (fun c env1 => (c = true → qb env1 Q E) ∧ (c = false → Q false env1)) E
def sOr (qa qb : SemT) : SemT := fun env Q E => qa env (fun c env1 => (c = true → Q true env1) ∧ (c = false → qb env1 Q E)) E
def sAndM (qa qb : SemT) : SemT := fun env Q E => qa env (fun c env1 => ∃ b : Bool, (c = true → qb env1 (fun b' env2 => b' = b ∧ env2 = env1) fun _ _ => False) ∧ Q (c && b) env1) E
def sOrM (qa qb : SemT) : SemT := fun env Q E => qa env (fun c env1 => ∃ b : Bool, (c = false → qb env1 (fun b' env2 => b' = b ∧ env2 = env1) fun _ _ => False) ∧ Q (c || b) env1) E
def sNot (qa : SemT) : SemT := fun env Q E => qa env (fun c env1 => Q (!c) env1) E
def sTV (qa : SemT) : SemE := fun env Q E => qa env (fun c env1 => Q (.fz (.bl c)) env1) E
structure QW (X : Cx) (W : WX) (M : List Nat) (e : Expr) (q : SemT) : Prop where
  run : PW X e (tT X.K W M q)
section
variable {X : Cx} {W : WX} {M Ma Mb Mc : List Nat} {e a b c : Expr} {rest : List Expr} {pa pb pc : SemP} {q qa qb qc : SemE} {ta tb tc : SemT} {ra rb rc root : Option Nat} {pos : Pos}
theorem tT_of {K : PySem.W.Frag} {t : TE} {σ : L2.St} {H : Hp} {Q : Bool → Hp → Prop} (h : tT K W M (sT q) σ H Q) (f : ∀ Qv, tQ K W M q σ H Qv → t σ H Qv) : t σ H fun x H' => ∃ k, x = .bl k ∧ Q k H' := by
  obtain ⟨n, ow, env, Qe, E, s, hq, k, x⟩ := h
  refine f _ ⟨n, ow, env, _, E, s, hq, fun v t' H' ow' env' y1 s' o r z => ?_, x⟩
  split at z
  · exact ⟨_, by have := (Tq.rd r); cases this; rfl, k _ H' ow' env' y1 s' o z⟩
  · exact z.elim
theorem t_val (h : QE X W M e q) (he : ∀ whole, isTrue e X.env whole = (do let v ← whole; standAt e.pos; holding [v] (truthy v)) := by intro _; rfl) : QT X W M e (sT q) :=
  ⟨PT_imp (pt_val h.run he) fun _ _ _ hq => tT_of (t := tQ X.K W M q) hq fun _ z => z⟩
theorem t_cmpR {op : CmpOp} {r : R2} {g : T → T → (T → Prop) → Prop} (ho : OpR X (compareOp op) r) (hg : Op2 X.K r g) (ha : QP X W Ma ra a pa) (hb : QP X W Mb rb b pb) (hm : behindInMarks op b = false) (hr : okR ra Mb = true := by decide) : QT X W (Ma ++ Mb) (.Compare a [op] [b] pos) (sT (s2 pa pb g)) :=
  ⟨PT_imp (pt_cmpR ho ha.run hb.run hm) fun _ _ _ hq => tT_of (t := tOp r _ _) hq fun _ z => op2_run hg hr z⟩
theorem t_lt (ha : QP X W Ma ra a pa) (hb : QP X W Mb rb b pb) (hr : okR ra Mb = true := by decide) : QT X W (Ma ++ Mb) (.Compare a [.Lt] [b] pos) (sT (s2 pa pb (int0G fun i j => .bl (decide (i < j))))) := t_cmpR op_lt (g_int0 fun _ _ _ => .bl _) ha hb (nomark _) hr
theorem t_gt (ha : QP X W Ma ra a pa) (hb : QP X W Mb rb b pb) (hr : okR ra Mb = true := by decide) : QT X W (Ma ++ Mb) (.Compare a [.Gt] [b] pos) (sT (s2 pa pb (int0G fun i j => .bl (decide (j < i))))) := t_cmpR op_gt (g_int0 fun _ _ _ => .bl _) ha hb (nomark _) hr
theorem t_ge (ha : QP X W Ma ra a pa) (hb : QP X W Mb rb b pb) (hr : okR ra Mb = true := by decide) : QT X W (Ma ++ Mb) (.Compare a [.GtE] [b] pos) (sT (s2 pa pb (int0G fun i j => .bl (decide (j ≤ i))))) := t_cmpR op_ge (g_int0 fun _ _ _ => .bl _) ha hb (nomark _) hr
theorem t_eq (hu : X.A.units + 65 < cLine) (ha : QP X W Ma ra a pa) (hb : QP X W Mb rb b pb) (hr : okR ra Mb = true := by decide) : QT X W (Ma ++ Mb) (.Compare a [.Eq] [b] pos) (sT (s2 pa pb (eqG false))) := t_cmpR (op_eqAll (by omega)) g_eq ha hb (nomark _) hr
theorem t_ne (hu : X.A.units + 65 < cLine) (ha : QP X W Ma ra a pa) (hb : QP X W Mb rb b pb) (hr : okR ra Mb = true := by decide) : QT X W (Ma ++ Mb) (.Compare a [.NotEq] [b] pos) (sT (s2 pa pb (eqG true))) := t_cmpR (op_neAll (by omega)) g_ne ha hb (nomark _) hr
theorem t_isN (ha : QP X W Ma ra a pa) (hb : QP X W Mb rb b pb) (hr : okR ra Mb = true := by decide) : QT X W (Ma ++ Mb) (.Compare a [.Is] [b] pos) (sT (s2 pa pb (isNG false))) := t_cmpR op_isN g_isN ha hb (nomark _) hr
theorem t_not (ha : QT X W M a ta) : QT X W M (.UnaryOp .Not a pos) (sNot ta) := ⟨PT_imp (pt_not ha.run) fun σ H Qv ⟨n, ow, env, Q, E, s, hq, k, x⟩ => ⟨n, ow, env, _, E, s, hq, fun b H' ow' env' y s' o z => k _ H' ow' env' y s' o z, x⟩⟩
theorem QW.t (h : QW X W M e ta) : QT X W M e ta := ⟨h.run.pt⟩
theorem PW_imp {t t' : TT} (h : PW X e t) (f : ∀ σ H Q, t' σ H Q → t σ H Q) : PW X e t' := ⟨fun wh pins s σ H Q I q => h.run wh pins s σ H Q I (f _ _ _ q)⟩
theorem w_and1 (ha : QT X W M a ta) : QW X W M (.BoolOp .And [a] pos) ta := ⟨pw_and1 ha.run⟩
theorem w_or1 (ha : QT X W M a ta) : QW X W M (.BoolOp .Or [a] pos) ta := ⟨pw_or1 ha.run⟩
theorem w_and (ha : QT X W Ma a ta) (hb : QW X W Mb (.BoolOp .And (b :: rest) pos) tb) : QW X W (Ma ++ Mb) (.BoolOp .And (a :: b :: rest) pos) (sAnd ta tb) := ⟨PW_imp (pw_and ha.run hb.run) fun σ H Qv ⟨n, ow, env, Q, E, s, hq, k, x⟩ =>
  ⟨n, ow, env, _, E, s, hq, fun c H1 ow1 env1 y1 s1 o1 z => by
    cases c with
    | true => exact ⟨n, ow1, env1, Q, E, s1, z.1 rfl, fun d H2 ow2 env2 y2 s2 o2 z2 => k d H2 ow2 env2 (y1.trans y2 subl subr (Nat.le_refl _) (Nat.le_refl _)) s2 (o1.trans o2 subl subr) z2, x.step y1 o1 subl subr (Nat.le_refl _) (Nat.le_refl _)⟩
    | false => exact k false H1 ow1 env1 (y1.mono subl (Nat.le_refl _)) s1 (o1.mono subl) (z.2 rfl), fun r d H' ow' env' y s' o => x r d H' ow' env' (y.mono subl (Nat.le_refl _)) s' (o.mono subl)⟩⟩
theorem w_or (ha : QT X W Ma a ta) (hb : QW X W Mb (.BoolOp .Or (b :: rest) pos) tb) : QW X W (Ma ++ Mb) (.BoolOp .Or (a :: b :: rest) pos) (sOr ta tb) := ⟨PW_imp (pw_or ha.run hb.run) fun σ H Qv ⟨n, ow, env, Q, E, s, hq, k, x⟩ =>
  ⟨n, ow, env, _, E, s, hq, fun c H1 ow1 env1 y1 s1 o1 z => by
    cases c with
    | false => exact ⟨n, ow1, env1, Q, E, s1, z.2 rfl, fun d H2 ow2 env2 y2 s2 o2 z2 => k d H2 ow2 env2 (y1.trans y2 subl subr (Nat.le_refl _) (Nat.le_refl _)) s2 (o1.trans o2 subl subr) z2, x.step y1 o1 subl subr (Nat.le_refl _) (Nat.le_refl _)⟩
    | true => exact k true H1 ow1 env1 (y1.mono subl (Nat.le_refl _)) s1 (o1.mono subl) (z.1 rfl), fun r d H' ow' env' y s' o => x r d H' ow' env' (y.mono subl (Nat.le_refl _)) s' (o.mono subl)⟩⟩
theorem w_andM (ha : QT X W Ma a ta) (hb : QW X W Mb (.BoolOp .And (b :: rest) pos) tb) : QW X W (Ma ++ Mb) (.BoolOp .And (a :: b :: rest) pos) (sAndM ta tb) := ⟨PW_imp (pw_and ha.run hb.run) fun σ H Qv ⟨n, ow, env, Q, E, s, hq, k, x⟩ =>
  ⟨n, ow, env, _, E, s, hq, fun c H1 ow1 env1 y1 s1 o1 z => by
    obtain ⟨b', z1, z2⟩ := z
    cases c with
    | true =>
      refine ⟨n, ow1, env1, _, _, s1, z1 rfl, fun d H2 ow2 env2 y2 s2 o2 q2 => ?_, fun r d H' ow' env' y s' o zz ez => ez.elim⟩
      obtain ⟨rfl, rfl⟩ := q2
      exact k d H2 ow2 env2 (y1.trans y2 subl subr (Nat.le_refl _) (Nat.le_refl _)) s2 (o1.trans o2 subl subr) z2
    | false => exact k false H1 ow1 env1 (y1.mono subl (Nat.le_refl _)) s1 (o1.mono subl) z2, fun r d H' ow' env' y s' o => x r d H' ow' env' (y.mono subl (Nat.le_refl _)) s' (o.mono subl)⟩⟩
theorem w_orM (ha : QT X W Ma a ta) (hb : QW X W Mb (.BoolOp .Or (b :: rest) pos) tb) : QW X W (Ma ++ Mb) (.BoolOp .Or (a :: b :: rest) pos) (sOrM ta tb) := ⟨PW_imp (pw_or ha.run hb.run) fun σ H Qv ⟨n, ow, env, Q, E, s, hq, k, x⟩ =>
  ⟨n, ow, env, _, E, s, hq, fun c H1 ow1 env1 y1 s1 o1 z => by
    obtain ⟨b', z1, z2⟩ := z
    cases c with
    | false =>
      refine ⟨n, ow1, env1, _, _, s1, z1 rfl, fun d H2 ow2 env2 y2 s2 o2 q2 => ?_, fun r d H' ow' env' y s' o zz ez => ez.elim⟩
      obtain ⟨rfl, rfl⟩ := q2
      exact k d H2 ow2 env2 (y1.trans y2 subl subr (Nat.le_refl _) (Nat.le_refl _)) s2 (o1.trans o2 subl subr) z2
    | true => exact k true H1 ow1 env1 (y1.mono subl (Nat.le_refl _)) s1 (o1.mono subl) z2, fun r d H' ow' env' y s' o => x r d H' ow' env' (y.mono subl (Nat.le_refl _)) s' (o.mono subl)⟩⟩
def sAndV (qa qb : SemE) : SemE := fun env Q E => sT qa env (fun c env1 => (c = true → qb env1 Q E) ∧ (c = false → Q (.fz (.bl false)) env1)) E
theorem q_one {op} (h : QE X W M a q) : QE X W M (.BoolOp op [a] pos) q := ⟨pe_one h.run⟩
theorem bl_of {K : PySem.W.Frag} {H : Hp} {ow : Ow} {l : Lab} {v : V} {b : Bool} (r : Tq K H ow l v (.fz (.bl b))) : v = .bl b := by have := Tq.rd r; cases this; rfl
theorem q_and (ha : QE X W Ma a qa) (hb : QE X W Mb (.BoolOp .And (b :: rest) pos) qb) : QE X W (Ma ++ Mb) (.BoolOp .And (a :: b :: rest) pos) (sAndV qa qb) := ⟨PE_imp (pe_and ha.run hb.run) fun σ H Qv ⟨n, ow, env, Q, E, s, hq, k, x⟩ =>
  ⟨n, ow, env, _, E, s, hq, fun v t H1 ow1 env1 y1 s1 o1 r1 z => by
    split at z
    · rename_i c
      refine ⟨c, bl_of r1, ?_⟩
      cases c with
      | true =>
        rw [if_pos rfl]
        exact ⟨n, ow1, env1, Q, E, s1, z.1 rfl, fun v2 t2 H2 ow2 env2 y2 s2 o2 r2 z2 => k v2 t2 H2 ow2 env2 (y1.trans y2 subl subr (Nat.le_refl _) (Nat.le_refl _)) s2 (o1.trans o2 subl subr) r2 z2, x.step y1 o1 subl subr (Nat.le_refl _) (Nat.le_refl _)⟩
      | false =>
        rw [if_neg Bool.false_ne_true]
        exact k _ _ H1 ow1 env1 (y1.mono subl (Nat.le_refl _)) s1 (o1.mono subl) (Tq.fz_.mpr (.bl _)) (z.2 rfl)
    · exact z.elim, fun r d H' ow' env' y s' o => x r d H' ow' env' (y.mono subl (Nat.le_refl _)) s' (o.mono subl)⟩⟩
def sNotV (qa : SemE) : SemE := fun env Q E => sT qa env (fun c env1 => Q (.fz (.bl (!c))) env1) E
theorem q_not (ha : QE X W M a qa) : QE X W M (.UnaryOp .Not a pos) (sNotV qa) := ⟨PE_imp (pe_not ha.run) fun σ H Qv ⟨n, ow, env, Q, E, s, hq, k, x⟩ =>
  ⟨n, ow, env, _, E, s, hq, fun v t H1 ow1 env1 y1 s1 o1 r1 z => by
    split at z
    · rename_i c
      exact ⟨c, bl_of r1, k _ _ H1 ow1 env1 y1 s1 o1 (Tq.fz_.mpr (.bl _)) z⟩
    · exact z.elim, x⟩⟩
def sChain (pa pb pc : SemP) (f g : Int → Int → Bool) : SemT := fun env Q E => pa env (fun t _ env1 => pb env1 (fun u _ env2 => match t, u with
  | .fz (.int i), .fz (.int j) => ∃ b : Bool, (f i j = true → pc env2 (fun w _ env3 => match w with
    | .fz (.int k) => g j k = b ∧ env3 = env2
    | _ => False) fun _ _ => False) ∧ Q (f i j && b) env2
  | _, _ => False) E) E
theorem chain_run {f g : Int → Int → Bool} (hr : okR ra Mb = true) {σ : L2.St} {H : Hp} {Qb : Bool → Hp → Prop} {Qv : VK} (h : tT X.K W ((Ma ++ Mb) ++ Mc) (sChain pa pb pc f g) σ H Qb) (hQ : ∀ b H', Qb b H' → Qv (.bl b) H') :
    tChain (rI0 fun i j => .bl (f i j)) (rI0 fun i j => .bl (g i j)) (tP X.K W Ma ra pa) (tP X.K W Mb rb pb) (tP X.K W Mc rc pc) σ H Qv := by
  obtain ⟨n, ow, env, Q, E, s, hq, k, x⟩ := h
  refine two (Ma := Ma) (Mb := Mb) (E := E) (R := fun t u env2 => match t, u with
    | .fz (.int i), .fz (.int j) => ∃ b : Bool, (f i j = true → pc env2 (fun w _ env3 => match w with
      | .fz (.int k) => g j k = b ∧ env3 = env2
      | _ => False) fun _ _ => False) ∧ Q (f i j && b) env2
    | _, _ => False) hr s hq (fun x' y t u H' ow' env' y1 s' o r1 r2 z => ?_) fun r d H' ow' env' y s' o => x r d H' ow' env' (y.mono subl (Nat.le_refl _)) s' (o.mono subl)
  split at z
  · rename_i i j
    obtain ⟨b', z1, z2⟩ := z
    refine ⟨i, j, r1.int, r2.int, _, rfl, ?_⟩
    have ey := r2.int
    cases e : f i j with
    | false =>
      rw [e] at z2
      rw [if_neg Bool.false_ne_true]
      exact hQ _ _ (k false H' ow' env' (y1.mono subl (Nat.le_refl _)) s' (o.mono subl) z2)
    | true =>
      rw [e] at z2
      rw [if_pos rfl]
      refine ⟨n, ow', env', _, _, s', z1 e, fun v w pt H2 ow2 env2 y2 s2 o2 r3 q3 => ?_, fun r d H' ow' env' y s' o zz ez => ez.elim⟩
      have ro := r3.ro s2
      split at q3
      · rename_i kk
        obtain ⟨q3, rfl⟩ := q3
        refine ⟨j, kk, ey, ro.int, ?_⟩
        show Qv (.bl (g j kk)) H2
        rw [q3]
        exact hQ _ _ (k b' H2 ow2 _ (y1.trans y2 subl subr (Nat.le_refl _) (Nat.le_refl _)) s2 (o.mono subl) z2)
      · exact q3.elim
  · exact z.elim
theorem t_chain {op op' : CmpOp} {f g : Int → Int → Bool} (ho : OpR X (compareOp op) (rI0 fun i j => .bl (f i j))) (ho' : OpR X (compareOp op') (rI0 fun i j => .bl (g i j))) (ha : QP X W Ma ra a pa) (hb : QP X W Mb rb b pb) (hc : QP X W Mc rc c pc)
    (hm : lastMarks [op, op'] [b, c] = false := by with_unfolding_all rfl) (hr : okR ra Mb = true := by decide) : QT X W ((Ma ++ Mb) ++ Mc) (.Compare a [op, op'] [b, c] pos) (sChain pa pb pc f g) :=
  ⟨PT_imp (pt_chain ho ho' ha.run hb.run hc.run hm) fun σ H Qv h => chain_run hr h fun b H' q => ⟨b, rfl, q⟩⟩
theorem q_chain {op op' : CmpOp} {f g : Int → Int → Bool} (ho : OpR X (compareOp op) (rI0 fun i j => .bl (f i j))) (ho' : OpR X (compareOp op') (rI0 fun i j => .bl (g i j))) (ha : QP X W Ma ra a pa) (hb : QP X W Mb rb b pb) (hc : QP X W Mc rc c pc)
    (hm : lastMarks [op, op'] [b, c] = false := by with_unfolding_all rfl) (hr : okR ra Mb = true := by decide) : QE X W ((Ma ++ Mb) ++ Mc) (.Compare a [op, op'] [b, c] pos) (sTV (sChain pa pb pc f g)) :=
  ⟨PE_imp (pe_chain ho ho' ha.run hb.run hc.run hm) fun σ H Qv ⟨n, ow, env, Q, E, s, hq, k, x⟩ => chain_run (Qb := fun b H' => ∃ ow' env', Stp ((Ma ++ Mb) ++ Mc) n H ow H' ow' ∧ StOk X.K H' ow' σ env' ∧ Out ((Ma ++ Mb) ++ Mc) env env' ∧ Q (.fz (.bl b)) env') hr
    ⟨n, ow, env, _, E, s, hq, fun b H' ow' env' y s' o z => ⟨ow', env', y, s', o, z⟩, x⟩ fun b H' ⟨ow', env', y, s', o, z⟩ => k _ _ H' ow' env' y s' o (Tq.fz_.mpr (.bl _)) z⟩
end
end QV

set_option Elab.async false
set_option linter.all false
set_option maxRecDepth 100000
set_option maxHeartbeats 2000000
namespace QV
open PySem L2

structure EndsQ where
  nx : Env → Prop
  rt : T → Env → Prop
  bk : Env → Prop
  ct : Env → Prop
  ex : XQ
abbrev SemS := EndsQ → Env → Prop
structure Fs (H : Hp) (ow : Ow) (H' : Hp) (ow' : Ow) : Prop where
  go : ∀ a o, H a = some o → (ow a = .fr ∨ ow a = .base) → H' a = some o ∧ ow' a = ow a
  tp : ∀ a vs, H a = some (.tup vs) → H' a = some (.tup vs)
instance {H : Hp} {ow : Ow} {H' : Hp} {ow' : Ow} : CoeFun (Fs H ow H' ow') (fun _ => ∀ a o, H a = some o → (ow a = .fr ∨ ow a = .base) → H' a = some o ∧ ow' a = ow a) := ⟨Fs.go⟩
def Ios (IO : List Nat) (σ σ' : L2.St) : Prop := ∀ i ∈ IO, σ'[i]? = σ[i]?
section
variable {K : PySem.W.Frag} {H H' H1 H2 : Hp} {ow ow' ow1 ow2 : Ow} {M : List Nat} {n : Nat} {σ σ' σ1 : L2.St} {IO : List Nat}
theorem Stp.fs (x : Stp M n H ow H' ow') : Fs H ow H' ow' := ⟨fun a o e q => x a o e (by rcases q with q | q <;> rw [q] <;> trivial), x.tp⟩
theorem Fs.refl : Fs H ow H ow := ⟨fun _ _ e _ => ⟨e, rfl⟩, fun _ _ e => e⟩
theorem Fs.trans (x : Fs H ow H1 ow1) (y : Fs H1 ow1 H2 ow2) : Fs H ow H2 ow2 := ⟨fun a o e q => by
  obtain ⟨e1, q1⟩ := x a o e q
  obtain ⟨e2, q2⟩ := y a o e1 (by rw [q1]; exact q)
  exact ⟨e2, q2.trans q1⟩, fun a vs e => y.tp a vs (x.tp a vs e)⟩
theorem Fs.bs (x : Fs H ow H' ow') : Same (Bs H ow) (Bs H' ow') := bs_map (fun a o e q => by
  obtain ⟨h1, h2⟩ := x a o e (.inr q)
  exact ⟨h1, h2.trans q⟩) x.tp
theorem Ios.refl : Ios IO σ σ := fun _ _ => rfl
theorem Ios.trans (x : Ios IO σ σ1) (y : Ios IO σ1 σ') : Ios IO σ σ' := fun i h => (y i h).trans (x i h)
end
def Bh (K : PySem.W.Frag) (IO : List Nat) (σ : L2.St) (H : Hp) (ow : Ow) (D : L2.St → Hp → Prop) (De : Env → Prop) : Prop :=
  ∀ (σ' : L2.St) (H' : Hp) (ow' : Ow) (env' : Env), Fs H ow H' ow' → Ios IO σ σ' → StOk K H' ow' σ' env' → De env' → D σ' H'
def BhR (K : PySem.W.Frag) (IO : List Nat) (σ : L2.St) (H : Hp) (ow : Ow) (D : VK) (De : T → Env → Prop) : Prop :=
  ∀ (v : V) (t : T) (σ' : L2.St) (H' : Hp) (ow' : Ow) (env' : Env), Fs H ow H' ow' → Ios IO σ σ' → StOk K H' ow' σ' env' → Tq K H' ow' (.tm 0) v t → De t env' → D v H'
def BhX (K : PySem.W.Frag) (W : WX) (IO : List Nat) (σ : L2.St) (H : Hp) (ow : Ow) (De : XQ) : Prop :=
  ∀ (r : Rz) (d : Option Addr) (σ' : L2.St) (H' : Hp) (ow' : Ow) (env' : Env), Fs H ow H' ow' → Ios IO σ σ' → StOk K H' ow' σ' env' → Rzp K H' ow' d r → De r env' → W (.ref r.C) d σ' H'
structure Bhs (K : PySem.W.Frag) (W : WX) (IO : List Nat) (σ : L2.St) (H : Hp) (ow : Ow) (D : Ends) (De : EndsQ) : Prop where
  nx : Bh K IO σ H ow D.nx De.nx
  rt : BhR K IO σ H ow D.rt De.rt
  bk : Bh K IO σ H ow D.bk De.bk
  ct : Bh K IO σ H ow D.ct De.ct
  ex : BhX K W IO σ H ow De.ex
def tS (K : PySem.W.Frag) (W : WX) (IO : List Nat) (q : SemS) : TS := fun D σ H => ∃ (ow : Ow) (env : Env) (De : EndsQ), StOk K H ow σ env ∧ q De env ∧ Bhs K W IO σ H ow D De
structure QS (X : Cx) (W : WX) (IO : List Nat) (st : Stmt) (q : SemS) : Prop where
  run : PS X st (tS X.K W IO q)
structure QSs (X : Cx) (W : WX) (IO : List Nat) (st : List Stmt) (q : SemS) : Prop where
  run : PSs X st (tS X.K W IO q)
theorem PS_imp {X : Cx} {st : Stmt} {t t' : TS} (h : PS X st t) (f : ∀ D σ H, t' D σ H → t D σ H) : PS X st t' := ⟨fun pins s σ H D I q => h.run pins s σ H D I (f _ _ _ q)⟩
theorem PSs_imp {X : Cx} {st : List Stmt} {t t' : TS} (h : PSs X st t) (f : ∀ D σ H, t' D σ H → t D σ H) : PSs X st t' := ⟨fun pins s σ H D I q => h.run pins s σ H D I (f _ _ _ q)⟩
section
variable {K : PySem.W.Frag} {W : WX} {IO : List Nat} {σ σ1 : L2.St} {H H1 : Hp} {ow ow1 : Ow} {D : Ends} {De : EndsQ}
theorem Bh.step {D : L2.St → Hp → Prop} {De : Env → Prop} (k : Bh K IO σ H ow D De) (x : Fs H ow H1 ow1) (y : Ios IO σ σ1) : Bh K IO σ1 H1 ow1 D De := fun σ' H' ow' env' f i s z => k σ' H' ow' env' (x.trans f) (y.trans i) s z
theorem BhR.step {D : VK} {De : T → Env → Prop} (k : BhR K IO σ H ow D De) (x : Fs H ow H1 ow1) (y : Ios IO σ σ1) : BhR K IO σ1 H1 ow1 D De := fun v t σ' H' ow' env' f i s z => k v t σ' H' ow' env' (x.trans f) (y.trans i) s z
theorem BhX.step {De : XQ} (k : BhX K W IO σ H ow De) (x : Fs H ow H1 ow1) (y : Ios IO σ σ1) : BhX K W IO σ1 H1 ow1 De := fun v t σ' H' ow' env' f i s z => k v t σ' H' ow' env' (x.trans f) (y.trans i) s z
theorem Bhs.step (k : Bhs K W IO σ H ow D De) (x : Fs H ow H1 ow1) (y : Ios IO σ σ1) : Bhs K W IO σ1 H1 ow1 D De := ⟨k.nx.step x y, k.rt.step x y, k.bk.step x y, k.ct.step x y, k.ex.step x y⟩
theorem BhX.xk {M : List Nat} {n : Nat} {env : Env} {E : XQ} (k : BhX K W IO σ H ow E) : Xk K W M σ H n ow env E := fun r d H' ow' env' y s _ z e => k r d σ H' ow' env' y.fs Ios.refl s z e
end

def sSeq (a b : SemS) : SemS := fun D env => a { D with nx := b D } env
def sNext : SemS := fun D env => D.nx env
def sSet (i : Nat) (q : SemE) : SemS := fun D env => q env (fun t env1 => D.nx (env1.set i (some t))) D.ex
def sRet (q : SemE) : SemS := fun D env => q env D.rt D.ex
def sDrop (q : SemE) : SemS := fun D env => q env (fun _ env1 => D.nx env1) D.ex
def sIfS (t : SemT) (a b : SemS) : SemS := fun D env => t env (fun c env1 => (c = true → a D env1) ∧ (c = false → b D env1)) D.ex
def sBreak : SemS := fun D env => D.bk env
inductive CutG (q : SemS) (D : EndsQ) (env : Env) : Prop
  | mk (h : ∃ R : Env → Prop, q { D with nx := R } env ∧ ∀ env', R env' → D.nx env')
  | no (h : False)
theorem CutG.ex {q : SemS} {D : EndsQ} {env : Env} : CutG q D env → ∃ R : Env → Prop, q { D with nx := R } env ∧ ∀ env', R env' → D.nx env'
  | .mk h => h
  | .no h => h.elim
def sCut (q : SemS) : SemS := fun D env => CutG q D env
theorem StOk.set {K : PySem.W.Frag} {H : Hp} {ow : Ow} {σ : L2.St} {env : Env} {i : Nat} {v : V} {t : T} (s : StOk K H ow σ env) (h : Tq K H ow (.sl i) v t) : StOk K H ow (σ.set i (some v)) (env.set i (some t)) := ⟨by rw [List.length_set, List.length_set]; exact s.len, fun j u e => by
  by_cases hj : i = j
  · subst hj
    have hl : i < env.length := by
      refine Nat.lt_of_not_le fun z => ?_
      rw [List.getElem?_eq_none (by simpa using z)] at e
      cases e
    rw [List.getElem?_set_self hl] at e
    cases e
    exact ⟨v, List.getElem?_set_self (by rw [← s.len]; exact hl), h⟩
  · rw [List.getElem?_set_ne hj] at e
    obtain ⟨w, e1, q⟩ := s.at_ j u e
    exact ⟨w, by rw [List.getElem?_set_ne hj]; exact e1, q⟩⟩
section
variable {X : Cx} {W : WX} {IO M : List Nat} {e : Expr} {q : SemE} {st : Stmt} {rest : List Stmt} {a b : SemS} {pos pos' : Pos}
theorem ss_nil : QSs X W IO [] sNext := ⟨PSs_imp pss_nil fun D σ H ⟨ow, env, De, s, hq, k⟩ => k.nx σ H ow env Fs.refl Ios.refl s hq⟩
theorem seq_run {K : PySem.W.Frag} {t u : TS} {a b : SemS} {D : Ends} {σ : L2.St} {H : Hp} (h : tS K W IO (sSeq a b) D σ H) (f1 : ∀ D, tS K W IO a D σ H → t D σ H) (f2 : ∀ σ' H', tS K W IO b D σ' H' → u D σ' H') : tSeq t u D σ H := by
  obtain ⟨ow, env, De, s, hq, k⟩ := h
  exact f1 _ ⟨ow, env, _, s, hq, ⟨fun σ' H' ow' env' x y s' z => f2 σ' H' ⟨ow', env', De, s', z, k.step x y⟩, k.rt, k.bk, k.ct, k.ex⟩⟩
theorem ss_cons (h1 : QS X W IO st a) (h2 : QSs X W IO rest b) : QSs X W IO (st :: rest) (sSeq a b) := ⟨PSs_imp (pss_cons h1.run h2.run) fun _ _ _ h => seq_run h (fun _ z => z) fun _ _ z => z⟩
theorem ss_one (h1 : QS X W IO st a) : QSs X W IO [st] a := ⟨pss_one h1.run⟩
theorem s_break : QS X W IO (.Break pos) sBreak := ⟨PS_imp ps_break fun D σ H ⟨ow, env, De, s, hq, k⟩ => k.bk σ H ow env Fs.refl Ios.refl s hq⟩
theorem s_expr (he : QE X W M e q) (hs : swapsWith e none pos.line X.env = pure false := by rfl) : QS X W IO (.Expr e pos) (sDrop q) := ⟨PS_imp (ps_expr he.run hs) fun D σ H ⟨ow, env, De, s, hq, k⟩ =>
  ⟨0, ow, env, _, De.ex, s, hq, fun v t H' ow' env' y s' _ r z => k.nx σ H' ow' env' y.fs Ios.refl s' z, k.ex.xk⟩⟩
theorem s_ret (he : QE X W M e q) : QS X W IO (.Return (some e) pos) (sRet q) := ⟨PS_imp (ps_ret he.run) fun D σ H ⟨ow, env, De, s, hq, k⟩ =>
  ⟨0, ow, env, _, De.ex, s, hq, fun v t H' ow' env' y s' _ r z => k.rt v t σ H' ow' env' y.fs Ios.refl s' r z, k.ex.xk⟩⟩
theorem s_if {c : Expr} {sa sb : List Stmt} {tc : SemT} (hc : QT X W M c tc) (ha : QSs X W IO sa a) (hb : QSs X W IO sb b) : QS X W IO (.If c sa sb pos) (sIfS tc a b) := ⟨PS_imp (ps_if hc.run ha.run hb.run) fun D σ H ⟨ow, env, De, s, hq, k⟩ =>
  ⟨0, ow, env, _, De.ex, s, hq, fun d H' ow' env' y s' _ z => by
    cases d with
    | true => rw [if_pos rfl]; exact ⟨ow', env', De, s', z.1 rfl, k.step y.fs Ios.refl⟩
    | false => rw [if_neg Bool.false_ne_true]; exact ⟨ow', env', De, s', z.2 rfl, k.step y.fs Ios.refl⟩, k.ex.xk⟩⟩
theorem QS.cut (h : QS X W IO st a) : QS X W IO st (sCut a) := ⟨PS_imp h.run fun D σ H ⟨ow, env, De, s, hG, k⟩ =>
  have ⟨R, hq, hR⟩ := hG.ex
  ⟨ow, env, { De with nx := R }, s, hq, ⟨fun σ' H' ow' env' x y s' z => k.nx σ' H' ow' env' x y s' (hR _ z), k.rt, k.bk, k.ct, k.ex⟩⟩⟩
theorem into_slot {K : PySem.W.Frag} {H : Hp} {ow : Ow} {σ : L2.St} {env : Env} {i : Nat} {v : V} {t : T} (s : StOk K H ow σ env) (r : Tq K H ow (.tm 0) v t) : Stp [] 0 H ow H (Ow.mv ow (.tm 0) (.sl i)) ∧ StOk K H (Ow.mv ow (.tm 0) (.sl i)) (σ.set i (some v)) (env.set i (some t)) :=
  have y : Stp [] 0 H ow H (Ow.mv ow (.tm 0) (.sl i)) := Stp.mv not_tm
  ⟨y, (s.stp0 y).set (r.mv fun z => nomatch z)⟩
theorem ios_set {IO : List Nat} {σ : L2.St} {i : Nat} {v : Option V} (h : i ∉ IO) : Ios IO σ (σ.set i v) := fun j hj => List.getElem?_set_ne fun z => h (by rw [z]; exact hj)
theorem s_set (i : Nat) {x : Str} (he : QE X W M e q) (hN : X.N.Nodup) (hi : X.N[i]? = some x := by rfl) (hx : Loc X.env.scope x := by first | exact Or.inl rfl | exact Or.inr rfl) (hio : i ∉ IO := by decide)
    (hs : swapsWith e (some (.Name x pos')) pos.line X.env = pure false := by rfl) (hf : X.fn x = true ∨ X.env.scope.names.lookup x = some .local := by first | exact .inl rfl | exact .inr rfl) : QS X W IO (.Assign [.Name x pos'] e pos) (sSet i q) :=
  ⟨PS_imp (ps_set (i := i) hN hi hx he.run hs hf) fun D σ H ⟨ow, env, De, s, hq, k⟩ => ⟨0, ow, env, _, De.ex, s, hq, fun v t H' ow' env' y s' _ r z =>
    have ⟨y2, s2⟩ := into_slot s' r
    k.nx _ _ _ _ (y.fs.trans y2.fs) (ios_set hio) s2 z, k.ex.xk⟩⟩
end
end QV

set_option Elab.async false
set_option linter.all false
set_option maxRecDepth 100000
set_option maxHeartbeats 2000000
namespace QV
open PySem L2

structure Tch (SS : List Nat) (σ σ' : L2.St) : Prop where
  len : σ'.length = σ.length
  eq : ∀ i, i ∉ SS → σ'[i]? = σ[i]?
theorem Tch.refl {SS : List Nat} {σ : L2.St} : Tch SS σ σ := ⟨rfl, fun _ _ => rfl⟩
theorem Tch.trans {S1 S2 S3 : List Nat} {σ σ1 σ2 : L2.St} (x : Tch S1 σ σ1) (y : Tch S2 σ1 σ2) (h1 : ∀ i ∈ S1, i ∈ S3) (h2 : ∀ i ∈ S2, i ∈ S3) : Tch S3 σ σ2 := ⟨y.len.trans x.len, fun i hi => (y.eq i fun z => hi (h2 i z)).trans (x.eq i fun z => hi (h1 i z))⟩
theorem Tch.ios {SS IO : List Nat} {σ σ' : L2.St} (x : Tch SS σ σ') (h : ∀ i ∈ IO, i ∉ SS) : Ios IO σ σ' := fun i hi => x.eq i (h i hi)
abbrev SemG := D → Env → (Env → Prop) → Prop
abbrev SemGs := List D → Env → (Env → Prop) → Prop
def tG (K : PySem.W.Frag) (SS : List Nat) (g : SemG) : TG := fun v σ H Q => ∃ (ow : Ow) (env : Env) (d : D) (k : Env → Prop), StOk K H ow σ env ∧ Rp K (Bs H ow) v d ∧ g d env k ∧
  ∀ σ' env', Tch SS σ σ' → Out SS env env' → StOk K H ow σ' env' → k env' → Q σ' H
def tGs (K : PySem.W.Frag) (SS : List Nat) (g : SemGs) : TGs := fun vs σ H Q => ∃ (ow : Ow) (env : Env) (ds : List D) (k : Env → Prop), StOk K H ow σ env ∧ Rps K (Bs H ow) vs ds ∧ g ds env k ∧
  ∀ σ' env', Tch SS σ σ' → Out SS env env' → StOk K H ow σ' env' → k env' → Q σ' H
structure QG (X : Cx) (SS : List Nat) (tg : Expr) (g : SemG) : Prop where
  run : PG X tg (tG X.K SS g)
structure QGs (X : Cx) (SS : List Nat) (tg : List Expr) (g : SemGs) : Prop where
  run : PGs X tg (tGs X.K SS g)
theorem PG_imp {X : Cx} {e : Expr} {t t' : TG} (h : PG X e t) (f : ∀ v σ H Q, t' v σ H Q → t v σ H Q) : PG X e t' := ⟨fun pins s σ H v u Q I r q => h.run pins s σ H v u Q I r (f _ _ _ _ q)⟩
theorem PGs_imp {X : Cx} {e : List Expr} {t t' : TGs} (h : PGs X e t) (f : ∀ v σ H Q, t' v σ H Q → t v σ H Q) : PGs X e t' := ⟨fun pins s σ H v u Q I r q => h.run pins s σ H v u Q I r (f _ _ _ _ q)⟩
def gN (i : Nat) : SemG := fun d env k => k (env.set i (some (.fz d)))
def gNil0 : SemGs := fun ds env k => match ds with
  | [] => k env
  | _ => False
def gCons0 (g : SemG) (gs : SemGs) : SemGs := fun ds env k => match ds with
  | d :: ds => g d env fun env' => gs ds env' k
  | _ => False
def gTup0 (n : Nat) (gs : SemGs) : SemG := fun d env k => match d with
  | .nd .tup ds => ds.length = n ∧ gs ds env k
  | _ => False
section
variable {X : Cx} {SS S1 S2 IO : List Nat} {e : Expr} {es : List Expr} {g : SemG} {gs : SemGs} {pos : Pos}
theorem g_name (i : Nat) {x : Str} (hN : X.N.Nodup) (hi : X.N[i]? = some x := by rfl) (hx : Loc X.env.scope x := by first | exact Or.inl rfl | exact Or.inr rfl) (hf : X.fn x = true ∨ X.env.scope.names.lookup x = some .local := by first | exact .inl rfl | exact .inr rfl) : QG X [i] (.Name x pos) (gN i) :=
  ⟨PG_imp (pg_name (i := i) hN hi hx hf) fun v σ H Q ⟨ow, env, d, k, s, r, hq, h⟩ => h _ _ ⟨List.length_set, fun j hj => List.getElem?_set_ne fun z => hj (by simp [z])⟩ Out.set1 (s.set (Tq.fz_.mpr r)) hq⟩
theorem gs_nil : QGs X [] [] gNil0 := ⟨PGs_imp pgs_nil fun vs σ H Q ⟨ow, env, ds, k, s, r, hq, h⟩ => by
  cases r with
  | nil => exact ⟨rfl, h _ _ Tch.refl Out.refl s hq⟩
  | cons _ _ => exact hq.elim⟩
theorem gs_cons (h1 : QG X S1 e g) (h2 : QGs X S2 es gs) (hs : (assignEach (e :: es) X.env).map (·.2) = assign e X.env :: (assignEach es X.env).map (·.2) := by rfl) : QGs X (S1 ++ S2) (e :: es) (gCons0 g gs) := ⟨PGs_imp (pgs_cons h1.run h2.run hs) fun vs σ H Q ⟨ow, env, ds, k, s, r, hq, h⟩ => by
  cases r with
  | nil => exact hq.elim
  | cons r1 r2 => exact ⟨_, _, rfl, ow, env, _, _, s, r1, hq, fun σ' env' i1 o1 s1 z => ⟨ow, env', _, k, s1, r2, z, fun σ2 env2 i2 o2 s2 z2 => h σ2 env2 (i1.trans i2 subl subr) (o1.trans o2 subl subr) s2 z2⟩⟩⟩
theorem g_tup {k : Nat} {n : Nat} (hc : X.calm = true) (h : QGs X SS es gs) (hn : (assignEach es X.env).length = n := by rfl) (hst : (assignEach es X.env).findIdx? (·.1) = none := by rfl) : QG X SS (.Tuple es k pos) (gTup0 n gs) := ⟨PG_imp (pg_tup hc h.run hn hst) fun v σ H Q ⟨ow, env, d, k, s, r, hq, h⟩ => by
  unfold gTup0 at hq
  split at hq
  · cases r with
    | tup c z r => exact ⟨_, _, rfl, sqT_of (bs_same H ow _ _ c), by rw [r.len]; exact hq.1, ow, env, _, k, s, r, hq.2, h⟩
    | cell hn _ _ => exact absurd rfl hn
  · exact hq.elim⟩
def sAsgT (q : SemE) (g : SemG) : SemS := fun D env => q env (fun t env1 => match t with
  | .fz d => g d env1 D.nx
  | _ => False) D.ex
theorem s_asgT {W : WX} {M : List Nat} {tg : Expr} {q : SemE} (he : QE X W M e q) (hg : QG X SS tg g) (hio : ∀ i ∈ IO, i ∉ SS := by decide) (hs : swapsWithSole [tg] e pos.line X.env = pure false := by rfl) (hw : swappedStores [tg] e X.env = pure none := by rfl)
    (h1 : (assignEach [tg] X.env).map (·.2) = [assign tg X.env] := by rfl) : QS X W IO (.Assign [tg] e pos) (sAsgT q g) := ⟨PS_imp (ps_asg he.run hg.run hs hw h1) fun D σ H ⟨ow, env, De, s, hq, k⟩ =>
  ⟨0, ow, env, _, De.ex, s, hq, fun v t H' ow' env' y s' _ r z => by
    split at z
    · exact ⟨ow', env', _, _, s', Tq.fz_.mp r, z, fun σ2 env2 i2 _ s2 z2 => k.nx _ _ _ _ y.fs (i2.ios hio) s2 z2⟩
    · exact z.elim, k.ex.xk⟩⟩
end

def Ext (H : Hp) (ow : Ow) (H' : Hp) (ow' : Ow) : Prop := ∀ a o, H a = some o → H' a = some o ∧ ow' a = ow a
theorem Ext.refl {H : Hp} {ow : Ow} : Ext H ow H ow := fun _ _ e => ⟨e, rfl⟩
theorem Ext.stp {M : List Nat} {n : Nat} {H H' : Hp} {ow ow' : Ow} (x : Ext H ow H' ow') : Stp M n H ow H' ow' := ⟨fun a o e _ => x a o e, fun a vs e => (x a _ e).1⟩
theorem Ext.new {H : Hp} {ow : Ow} {p : Addr} {o : HO} {l : Lab} (h : H p = none) : Ext H ow (upd H p o) (Ow.put ow p l) := fun a u e => by
  have ne := ne_of_none e h
  exact ⟨by rw [upd_ne ne]; exact e, put_ne ne⟩
structure ItD (K : PySem.W.Frag) (H : Hp) (ow : Ow) (J : It) (ds : List D) : Prop where
  go : ∀ (i : Nat) (d : D) (H' : Hp) (ow' : Ow), Fs H ow H' ow' → ds[i]? = some d → J.go i H'
  yld : ∀ (i : Nat) (d : D) (H' : Hp) (ow' : Ow) (x : V) (H2 : Hp), Fs H ow H' ow' → ds[i]? = some d → J.yld i H' x H2 → ∃ ow2, Ext H' ow' H2 ow2 ∧ Rp K (Bs H2 ow2) x d
  stop : ∀ (H' : Hp) (ow' : Ow), Fs H ow H' ow' → J.stop ds.length H'
  sz : ds.length ≤ sizeLine
abbrev SemI := Env → (List D → Env → Prop) → XQ → Prop
def tI (K : PySem.W.Frag) (W : WX) (M : List Nat) (q : SemI) : TI := fun σ H R => ∃ (n : Nat) (ow : Ow) (env : Env) (Q : List D → Env → Prop) (E : XQ), StOk K H ow σ env ∧ q env Q E ∧
  (∀ (J : It) (ds : List D) (H' : Hp) (ow' : Ow) (env' : Env), Stp M n H ow H' ow' → StOk K H' ow' σ env' → Out M env env' → ItD K H' ow' J ds → Q ds env' → R J H') ∧ Xk K W M σ H n ow env E
structure QI (X : Cx) (W : WX) (M : List Nat) (tg e : Expr) (q : SemI) : Prop where
  run : PI X tg e (tI X.K W M q)
theorem PI_imp {X : Cx} {tg e : Expr} {t t' : TI} (h : PI X tg e t) (f : ∀ σ H R, t' σ H R → t σ H R) : PI X tg e t' := ⟨fun pins s σ H R I q => h.run pins s σ H R I (f _ _ _ q)⟩
section
variable {K : PySem.W.Frag} {H : Hp} {ow : Ow}
theorem itd_list {a : Addr} {vs : List V} {ds : List D} (h : SqL K (Bs H ow) a vs) (hz : vs.length ≤ sizeLine) (r : Rps K (Bs H ow) vs ds) : ItD K H ow (Itl K a) ds := by
  have st : ∀ {H' : Hp} {ow' : Ow}, Fs H ow H' ow' → SqL K H' a vs := fun x => ((bs_same _ _).seq (x.bs.seq h))
  refine ⟨fun i d H' ow' x e => ?_, fun i d H' ow' y H2 x e q => ?_, fun H' ow' x => ⟨vs, st x, Nat.le_of_eq r.len⟩, by rw [← r.len]; exact hz⟩
  · obtain ⟨v, e1, _⟩ := r.get e
    exact ⟨vs, v, st x, e1⟩
  · obtain ⟨rfl, hy⟩ := q
    obtain ⟨v, e1, r1⟩ := r.get e
    have ev := hy vs (st x)
    rw [e1] at ev
    cases ev
    exact ⟨ow', Ext.refl, r1.mono x.bs⟩
theorem itd_tup {a : Addr} {vs : List V} {ds : List D} (h : SqT K (Bs H ow) a vs) (hz : vs.length ≤ sizeLine) (r : Rps K (Bs H ow) vs ds) : ItD K H ow (Itt K a) ds := by
  have st : ∀ {H' : Hp} {ow' : Ow}, Fs H ow H' ow' → SqT K H' a vs := fun x => (sqT_mono (bs_same _ _) (sqT_mono x.bs h))
  refine ⟨fun i d H' ow' x e => ?_, fun i d H' ow' y H2 x e q => ?_, fun H' ow' x => ⟨vs, st x, Nat.le_of_eq r.len⟩, by rw [← r.len]; exact hz⟩
  · obtain ⟨v, e1, _⟩ := r.get e
    exact ⟨vs, v, st x, e1⟩
  · obtain ⟨rfl, hy⟩ := q
    obtain ⟨v, e1, r1⟩ := r.get e
    have ev := hy vs (st x)
    rw [e1] at ev
    cases ev
    exact ⟨ow', Ext.refl, r1.mono x.bs⟩
def rngD (lo : Int) (n : Nat) : List D := (List.range n).map fun k => D.int (lo + (k : Nat))
theorem rngD_len {lo : Int} {n : Nat} : (rngD lo n).length = n := by unfold rngD; rw [List.length_map, List.length_range]
theorem rngD_get {lo : Int} {n i : Nat} {d : D} (h : (rngD lo n)[i]? = some d) : i < n ∧ d = .int (lo + (i : Nat)) := by
  unfold rngD at h
  rw [List.getElem?_map] at h
  by_cases hi : i < n
  · rw [List.getElem?_range hi] at h
    cases h
    exact ⟨hi, rfl⟩
  · rw [List.getElem?_eq_none (by simpa using hi)] at h
    cases h
theorem itd_rng {lo : Int} {n : Nat} (hz : n ≤ sizeLine) : ItD K H ow (Itr lo n) (rngD lo n) :=
  ⟨fun i d H' ow' x e => (rngD_get e).1, fun i d H' ow' y H2 x e q => by
    obtain ⟨rfl, rfl⟩ := q
    rw [(rngD_get e).2]
    exact ⟨ow', Ext.refl, .int _⟩, fun H' ow' x => Nat.le_of_eq rngD_len.symm, by rw [rngD_len]; exact hz⟩
def enumD (ds : List D) : List D := (List.range ds.length).zipWith (fun k d => D.nd .tup [.int (k : Nat), d]) ds
theorem enumD_get {ds : List D} {i : Nat} {d : D} (h : (enumD ds)[i]? = some d) : ∃ e, ds[i]? = some e ∧ d = .nd .tup [.int (i : Nat), e] := by
  unfold enumD at h
  rw [List.getElem?_zipWith] at h
  cases e : ds[i]? with
  | none => rw [e] at h; split at h <;> simp_all
  | some y =>
    have hi : i < ds.length := (List.getElem?_eq_some_iff.mp e).1
    rw [e, List.getElem?_range hi] at h
    cases h
    exact ⟨y, rfl, rfl⟩
theorem enumD_len {ds : List D} : (enumD ds).length = ds.length := by unfold enumD; rw [List.length_zipWith, List.length_range, Nat.min_self]
theorem itd_enum {a : Addr} {vs : List V} {ds : List D} (h : SqL K (Bs H ow) a vs) (hz : vs.length ≤ sizeLine) (r : Rps K (Bs H ow) vs ds) : ItD K H ow (Ite K a) (enumD ds) := by
  have st : ∀ {H' : Hp} {ow' : Ow}, Fs H ow H' ow' → SqL K H' a vs := fun x => ((bs_same _ _).seq (x.bs.seq h))
  refine ⟨fun i d H' ow' x e => ?_, fun i d H' ow' y H2 x e q => ?_, fun H' ow' x => ⟨vs, st x, by rw [enumD_len]; exact Nat.le_of_eq r.len⟩, by rw [enumD_len, ← r.len]; exact hz⟩
  · obtain ⟨e', e1, _⟩ := enumD_get e
    obtain ⟨v, e2, _⟩ := r.get e1
    exact ⟨vs, v, st x, e2⟩
  · obtain ⟨Tt, v, rfl, hn, rfl, hy⟩ := q
    obtain ⟨e', e1, rfl⟩ := enumD_get e
    obtain ⟨w, e2, r1⟩ := r.get e1
    have ev := hy vs (st x)
    rw [e2] at ev
    cases ev
    have y : Ext H' ow' (upd H' Tt (.tup [.int (i : Nat), v])) (Ow.put ow' Tt .base) := Ext.new hn
    refine ⟨_, y, .tup ?_ (by show 2 ≤ sizeLine; decide) (.cons (.int _) (.cons (r1.mono ?_) .nil))⟩
    · rw [bs_of put_same, upd_same]
    · intro b o eb
      exact (y.stp (M := []) (n := 0)).bs b o (x.bs b o eb)
def sgnD (x : Str) : List D := x.cps.toList.map fun c => D.str ⟨#[c]⟩
theorem itd_str {x : Str} (hz : x.length ≤ sizeLine) : ItD K H ow (Its x) (sgnD x) := by
  have len : (sgnD x).length = x.cps.size := by unfold sgnD; rw [List.length_map, Array.length_toList]
  refine ⟨fun i d H' ow' _ e => ?_, fun i d H' ow' y H2 _ e q => ?_, fun H' ow' _ => by show x.cps.size ≤ _; omega, by rw [len]; exact hz⟩
  · have := (List.getElem?_eq_some_iff.mp e).1
    show i < x.cps.size
    omega
  · obtain ⟨rfl, c, e1, rfl⟩ := q
    unfold sgnD at e
    rw [List.getElem?_map, Array.getElem?_toList, e1] at e
    cases e
    exact ⟨ow', Ext.refl, .str _⟩
end
section
variable {X : Cx} {W : WX} {M Ma Mb : List Nat} {e a b tg : Expr} {q qa qb : SemE} {p pos : Pos}
def iSeq (q : SemE) (f : List D → List D) : SemI := fun env Q E => q env (fun t env1 => match t with
  | .fz (.nd .lst ds) => Q (f ds) env1
  | _ => False) E
def iSeqT (q : SemE) : SemI := fun env Q E => q env (fun t env1 => match t with
  | .fz (.nd .tup ds) => Q ds env1
  | _ => False) E
theorem fz_lst {K : PySem.W.Frag} {H : Hp} {ow : Ow} {l : Lab} {v : V} {ds : List D} (r : Tq K H ow l v (.fz (.nd .lst ds))) : ∃ a vs, v = .ref a ∧ SqL K (Bs H ow) a vs ∧ vs.length ≤ sizeLine ∧ Rps K (Bs H ow) vs ds := by
  cases Tq.fz_.mp r with
  | cell _ c r => exact ⟨_, _, rfl, .inl (.inl c.at_), c.sz, r⟩
theorem fz_tup {K : PySem.W.Frag} {H : Hp} {ow : Ow} {l : Lab} {v : V} {ds : List D} (r : Tq K H ow l v (.fz (.nd .tup ds))) : ∃ a vs, v = .ref a ∧ SqT K (Bs H ow) a vs ∧ vs.length ≤ sizeLine ∧ Rps K (Bs H ow) vs ds := by
  cases Tq.fz_.mp r with
  | tup c z r => exact ⟨_, _, rfl, sqT_of c, z, r⟩
  | cell hn _ _ => exact absurd rfl hn
theorem i_list (h : QE X W M e q) : QI X W M tg e (iSeq q id) := ⟨PI_imp (pi_list h.run) fun σ H R ⟨n, ow, env, Q, E, s, hq, k, x⟩ => ⟨n, ow, env, _, E, s, hq, fun v t H' ow' env' y s' o r z => by
  split at z
  · obtain ⟨a, vs, rfl, c, hz, r⟩ := fz_lst r
    exact ⟨a, rfl, ⟨vs, (bs_same _ _).seq c⟩, k _ _ H' ow' env' y s' o (itd_list c hz r) z⟩
  · exact z.elim, x⟩⟩
theorem i_tup (h : QE X W M e q) : QI X W M tg e (iSeqT q) := ⟨PI_imp (pi_tup h.run) fun σ H R ⟨n, ow, env, Q, E, s, hq, k, x⟩ => ⟨n, ow, env, _, E, s, hq, fun v t H' ow' env' y s' o r z => by
  split at z
  · obtain ⟨a, vs, rfl, c, hz, r⟩ := fz_tup r
    exact ⟨a, rfl, ⟨vs, sqT_mono (bs_same _ _) c⟩, k _ _ H' ow' env' y s' o (itd_tup c hz r) z⟩
  · exact z.elim, x⟩⟩
def iStr0 (q : SemE) : SemI := fun env Q E => q env (fun t env1 => match t with
  | .fz (.str x) => x.length ≤ sizeLine ∧ Q (sgnD x) env1
  | _ => False) E
theorem i_str (h : QE X W M e q) : QI X W M tg e (iStr0 q) := ⟨PI_imp (pi_str h.run) fun σ H R ⟨n, ow, env, Q, E, s, hq, k, x⟩ => ⟨n, ow, env, _, E, s, hq, fun v t H' ow' env' y s' o r z => by
  split at z
  · have := Tq.rd r
    cases this
    exact ⟨_, rfl, k _ _ H' ow' env' y s' o (itd_str z.1) z.2⟩
  · exact z.elim, x⟩⟩
theorem PA_imp {es : List Expr} {t t' : TA} (h : PA X es t) (f : ∀ σ H Q, t' σ H Q → t σ H Q) : PA X es t' := ⟨fun pos pins s σ H Q I q => h.run pos pins s σ H Q I (f _ _ _ q)⟩
def iRng (q : SemE) : SemI := fun env Q E => q env (fun t env1 => match t with
  | .fz (.int n) => n ≤ sizeLine ∧ -(2 ^ 62) ≤ n ∧ Q (rngD 0 n.toNat) env1
  | _ => False) E
theorem line62 : (sizeLine : Int) < 2 ^ 62 := by rw [sizeLine_eq]; decide
theorem i_rng (hg : Gl X "range") (hm : X.mg "range" = none) (h : QE X W M e q) (hs : starEach [e] X.env = [(false, eval e X.env)] := by rfl) : QI X W M tg (.Call (.Name "range" p) [e] [] pos) (iRng q) :=
  ⟨PI_imp (pi_range1 hg hm (pa_cons h.run pa_nil hs) hs) fun σ H R ⟨n, ow, env, Q, E, s, hq, k, x⟩ => ⟨n, ow, env, _, E, s, hq, fun v t H' ow' env' y s' o r z => by
    split at z
    · rename_i m
      have := Tq.rd r
      cases this
      have l62 := line62
      exact ⟨m, rfl, by omega, by omega, k _ _ H' ow' env' y s' o (itd_rng (by omega)) z.2.2⟩
    · exact z.elim, x⟩⟩
theorem i_enum {elts : List Expr} {kk : Nat} {tpos : Pos} (hg : Gl X "enumerate") (hm : X.mg "enumerate" = none) (h : QE X W M e q) (hs : starEach [e] X.env = [(false, eval e X.env)] := by rfl) : QI X W M (.Tuple elts kk tpos) (.Call (.Name "enumerate" p) [e] [] pos) (iSeq q enumD) :=
  ⟨PI_imp (pi_enum hg hm (pa_cons h.run pa_nil hs) hs) fun σ H R ⟨n, ow, env, Q, E, s, hq, k, x⟩ => ⟨n, ow, env, _, E, s, hq, fun v t H' ow' env' y s' o r z => by
    split at z
    · obtain ⟨a, vs, rfl, c, hz, r⟩ := fz_lst r
      exact ⟨a, vs, rfl, (bs_same _ _).seq c, k _ _ H' ow' env' y s' o (itd_enum c hz r) z⟩
    · exact z.elim, x⟩⟩
end

inductive ForG (g : SemG) (body : SemS) (D : EndsQ) (ds : List QV.D) (env1 : Env) : Prop
  | mk (h : ∃ I : Nat → Env → Prop, I 0 env1 ∧ (∀ j d env', ds[j]? = some d → I j env' → g d env' fun env2 => body { D with nx := I (j + 1), ct := I (j + 1), bk := D.nx } env2) ∧ ∀ env', I ds.length env' → D.nx env')
  | no (h : False)
theorem ForG.ex {g : SemG} {body : SemS} {D : EndsQ} {ds : List QV.D} {env1 : Env} : ForG g body D ds env1 → ∃ I : Nat → Env → Prop, I 0 env1 ∧ (∀ j d env', ds[j]? = some d → I j env' → g d env' fun env2 => body { D with nx := I (j + 1), ct := I (j + 1), bk := D.nx } env2) ∧ ∀ env', I ds.length env' → D.nx env'
  | .mk h => h
  | .no h => h.elim
def sFor (i : SemI) (g : SemG) (body : SemS) : SemS := fun D env => i env (fun ds env1 => ForG g body D ds env1) D.ex
inductive WhileG (t : SemT) (body : SemS) (D : EndsQ) (env : Env) : Prop
  | mk (h : ∃ I : Nat → Env → Prop, (∃ m, I m env) ∧ ∀ m env', I m env' → t env' (fun c env1 => (c = true → body { D with nx := fun e => ∃ m', m' < m ∧ I m' e, ct := fun e => ∃ m', m' < m ∧ I m' e, bk := D.nx } env1) ∧ (c = false → D.nx env1)) D.ex)
  | no (h : False)
theorem WhileG.ex {t : SemT} {body : SemS} {D : EndsQ} {env : Env} : WhileG t body D env → ∃ I : Nat → Env → Prop, (∃ m, I m env) ∧ ∀ m env', I m env' → t env' (fun c env1 => (c = true → body { D with nx := fun e => ∃ m', m' < m ∧ I m' e, ct := fun e => ∃ m', m' < m ∧ I m' e, bk := D.nx } env1) ∧ (c = false → D.nx env1)) D.ex
  | .mk h => h
  | .no h => h.elim
def putE (env : Env) : List Nat → List (Option T) → Env
  | i :: is, v :: vs => putE (env.set i v) is vs
  | _, _ => env
theorem ForG.fr {g : SemG} {body : SemS} {D : EndsQ} {ds : List QV.D} {env : Env} (ms : List Nat) (I : Nat → List (Option T) → Prop) (h0 : ∃ vs, env = putE env ms vs ∧ I 0 vs)
    (hs : ∀ j d vs, ds[j]? = some d → I j vs → g d (putE env ms vs) fun env2 => body { D with nx := fun e => ∃ us, e = putE env ms us ∧ I (j + 1) us, ct := fun e => ∃ us, e = putE env ms us ∧ I (j + 1) us, bk := D.nx } env2) (he : ∀ vs, I ds.length vs → D.nx (putE env ms vs)) : ForG g body D ds env :=
  .mk ⟨fun j e => ∃ vs, e = putE env ms vs ∧ I j vs, h0, fun j d env' hd ⟨vs, e, i⟩ => by subst e; exact hs j d vs hd i, fun env' ⟨vs, e, i⟩ => by subst e; exact he vs i⟩
theorem WhileG.fr {t : SemT} {body : SemS} {D : EndsQ} {env : Env} (ms : List Nat) (I : Nat → List (Option T) → Prop) (h0 : ∃ m vs, env = putE env ms vs ∧ I m vs)
    (hs : ∀ m vs, I m vs → t (putE env ms vs) (fun c env1 => (c = true → body { D with nx := fun e => ∃ m', m' < m ∧ ∃ us, e = putE env ms us ∧ I m' us, ct := fun e => ∃ m', m' < m ∧ ∃ us, e = putE env ms us ∧ I m' us, bk := D.nx } env1) ∧ (c = false → D.nx env1)) D.ex) : WhileG t body D env :=
  .mk ⟨fun m e => ∃ vs, e = putE env ms vs ∧ I m vs, h0, fun m env' ⟨vs, e, i⟩ => by subst e; exact hs m vs i⟩
theorem CutG.fr {q : SemS} {D : EndsQ} {env : Env} (ms : List Nat) (R : List (Option T) → Prop) (h : q { D with nx := fun e => ∃ us, e = putE env ms us ∧ R us } env) (he : ∀ vs, R vs → D.nx (putE env ms vs)) : CutG q D env :=
  .mk ⟨fun e => ∃ us, e = putE env ms us ∧ R us, h, fun env' ⟨vs, e, i⟩ => by subst e; exact he vs i⟩
section
variable {X : Cx} {W : WX} {M IO SS : List Nat} {iter tg c : Expr} {body : List Stmt} {i : SemI} {g : SemG} {b : SemS} {tc : SemT} {pos : Pos}
theorem s_for (hp : PassesOwn (model X.prog X.w) X.A X.env X.xe) (hc : X.calm = true) (hi : QI X W M tg iter i) (hg : QG X SS tg g) (hb : QSs X W IO body b) (hio : ∀ i ∈ IO, i ∉ SS := by decide) (hs : ∀ x, foldedSetIterable iter X.env x = pure x := by intro _; rfl) : QS X W IO (.For tg iter body [] pos) (sFor i g b) :=
  ⟨PS_imp (ps_for hp hc hi.run hg.run hb.run hs) fun D σ H ⟨ow, env, De, s, hq, k⟩ => ⟨0, ow, env, _, De.ex, s, hq, fun J ds H1 ow1 env1 y1 s1 _ J1 hF => by
    obtain ⟨I, i0, it, ie⟩ := hF.ex
    refine ⟨fun j m σ' H' => m = ds.length - j ∧ j ≤ ds.length ∧ ∃ ow' env', Fs H1 ow1 H' ow' ∧ Ios IO σ σ' ∧ StOk X.K H' ow' σ' env' ∧ I j env', ⟨ds.length, by simp, Nat.zero_le _, ow1, env1, Fs.refl, Ios.refl, s1, i0⟩, ?_⟩
    rintro j m σ' H' ⟨rfl, hj, ow', env', fs, io, s', ij⟩
    by_cases hlt : j < ds.length
    · have hd : ds[j]? = some ds[j] := by simp [hlt]
      refine .inr ⟨J1.go j _ H' ow' fs hd, fun σ2 H2 => ∃ ow2 env2, Fs H1 ow1 H2 ow2 ∧ Ios IO σ σ2 ∧ StOk X.K H2 ow2 σ2 env2 ∧ I (j + 1) env2, fun σ2 H2 ⟨ow2, env2, q⟩ => ⟨ds.length - (j + 1), by omega, rfl, hlt, ow2, env2, q⟩, fun x H2 yl => ?_⟩
      obtain ⟨ow2, ex, rx⟩ := J1.yld j _ H' ow' x H2 fs hd yl
      have y2 : Stp [] 0 H' ow' H2 ow2 := ex.stp
      refine ⟨ow2, env', _, _, s'.stp0 y2, rx, it j _ env' hd ij, fun σ3 env3 tc3 _ s3 z3 => ?_⟩
      have io3 := tc3.ios hio
      have fs2 := fs.trans y2.fs
      refine ⟨ow2, env3, _, s3, z3, ⟨fun σ4 H4 ow4 env4 f4 i4 s4 z4 => ⟨ow4, env4, fs2.trans f4, (io.trans io3).trans i4, s4, z4⟩, (k.rt.step (y1.fs.trans fs2) (io.trans io3)), (k.nx.step (y1.fs.trans fs2) (io.trans io3)), fun σ4 H4 ow4 env4 f4 i4 s4 z4 => ⟨ow4, env4, fs2.trans f4, (io.trans io3).trans i4, s4, z4⟩, k.ex.step (y1.fs.trans fs2) (io.trans io3)⟩⟩
    · have e : j = ds.length := by omega
      subst e
      exact .inl ⟨J1.stop H' ow' fs, k.nx σ' H' ow' env' (y1.fs.trans fs) io s' (ie env' ij)⟩, k.ex.xk⟩⟩
end
end QV

set_option Elab.async false
set_option linter.all false
set_option maxRecDepth 100000
set_option maxHeartbeats 2000000
namespace QV
open PySem PySem.Spec PyProof.Rows L2

structure FnG (P : Program) (w : World) (K : PySem.W.Frag) (mg : Str → Option Value) (base : Heap) (k : Nat) (f : Addr) (fd : FuncData) (ps : List Str) (sp : Sp) : Prop where
  len : ∀ vs H Q E, sp vs H Q E → vs.length = ps.length
  run : ∀ (A : Around) (outer : List PySem.Env) (s : Shared) (H : Hp) (args : Args) (us : List Value) (vs : List V) (Q : VK) (E : XK), Room k A → A.guards = some [] → Env0 P w K mg base A outer s H → BindsTo s fd args (ps.zip us) → Vals vs us → sp vs H Q E →
    codeAny (model P w) A (.call (.ref f) args) (CR (L2.CX P w) outer P w H s Q E) s
section
variable {P : Program} {w : World} {K : PySem.W.Frag} {mg : Str → Option Value} {base : Heap}
theorem fnG_of {k : Nat} {x qual : Str} {st : Stmt} {f : Addr} {fd : FuncData} {N ps : List Str} {sp : Sp} (F : Fun K x qual st f fd) (S : FnScope N ps (defScope st)) (len : ∀ vs H Q E, sp vs H Q E → vs.length = ps.length)
    (hb : ∀ (cdv : Value) (A : Around) (outer : List PySem.Env) (s : Shared) (H : Hp) (vs : List V) (Q : VK) (E : XK), Room k (A.deeper (envOfC qual (defScope st) s.heap.objs.size f cdv)) → A.guards = some [] → sp vs H Q E →
      ∃ t, PSs (cxOf (L2.CX P w) P w K mg base N qual (defScope st) f cdv A outer s H E) (defBody st) t ∧ t { nx := fun _ H' => Q .non H', rt := Q } (L2.start N vs) H) : FnG P w K mg base (k + 1) f fd ps sp := by
  obtain ⟨oc, od, kV, doc, pm, an, cdv, ct, osl, rfl, lk, hcd⟩ := F.ex
  constructor
  · exact len
  · intro A outer s H args us vs Q E hr hG e0 hbind rv hsp
    have hlen := len _ _ _ _ hsp
    have kin : K.In s.heap := e0.mod.kin.keeps fun b o e => (e0.bs b o e).1
    have nl : s.heap.NoLimit := e0.mod.nolimit.keeps fun b o e => (e0.bs b o e).1
    have kinds : ∀ y ∈ ps.zip us, (defScope st).names.lookup y.1 = some .local ∨ ((defScope st).names.lookup y.1 = some .cell ∧ ((cellsFrom (s.heap.objs.size + 1) (defScope st).names []).lookup y.1).isSome = true) := by
      rintro ⟨m, u⟩ hy
      rcases S.par m (List.of_mem_zip hy).1 with q | q
      · exact .inl q
      · exact .inr ⟨q, PySem.W.cellsFrom_some _ _ _ (.inl q)⟩
    apply codeAny_call_function hr.depth (kin _ _ lk) rfl S.co S.gen rfl (PySem.W.codeRec_of kin hcd) (hbind _ _ _ _ _)
    refine wpAny_newFunctionEnv_cells S.kind kinds ?_
    rintro env rfl s1 ic
    refine ⟨nl.keeps ic.toInCall.keep, codeAny_func ?_⟩
    obtain ⟨t, ht, q⟩ := hb cdv A outer s H vs Q E (hr.deeper _) hG hsp
    have I0 : Inv (cxOf (L2.CX P w) P w K mg base N qual (defScope st) f cdv A outer s H E) [] (L2.start N vs) H s1 := inv_start S hr.hd e0 hlen rv ic
    refine wpAny_mono (ht.run [] s1 (L2.start N vs) H _ I0 q) ?_ fun _ _ z => z
    intro fl s' z
    cases fl with
    | ret u =>
      obtain ⟨v, σ', H', J, r, qq⟩ := z
      exact ⟨v, H', J.os, J.bare, J.base, J.hok, r, qq⟩
    | next =>
      obtain ⟨σ', H', J, qq⟩ := z
      exact ⟨.non, H', J.os, J.bare, J.base, J.hok, rfl, qq⟩
    | brk =>
      obtain ⟨_, _, _, qq⟩ := z
      exact qq.elim
    | cont =>
      obtain ⟨_, _, _, qq⟩ := z
      exact qq.elim
theorem FnG.mono {j k : Nat} {f : Addr} {fd : FuncData} {ps : List Str} {sp : Sp} (F : FnG P w K mg base j f fd ps sp) (h : j ≤ k) : FnG P w K mg base k f fd ps sp := ⟨F.len, fun A outer s H args us vs Q E hr => F.run A outer s H args us vs Q E (hr.mono h)⟩
theorem FnG.imp {k : Nat} {f : Addr} {fd : FuncData} {ps : List Str} {sp sp' : Sp} (F : FnG P w K mg base k f fd ps sp) (h : ∀ vs H Q E, sp' vs H Q E → sp vs H Q E) : FnG P w K mg base k f fd ps sp' :=
  ⟨fun vs H Q E q => F.len vs H Q E (h _ _ _ _ q), fun A outer s H args us vs Q E hr hg he hb hv hs => F.run A outer s H args us vs Q E hr hg he hb hv (h _ _ _ _ hs)⟩
end
section
variable {X : Cx} {W : WX} {k : Nat} {f C : Addr} {fd : FuncData} {ps : List Str} {sp : Sp} {x m : Str} {p pos apos : Pos} {e o : Expr} {es : List Expr} {ta : TE} {t : TA}
theorem runG {pins : List (Addr × Obj)} {σ : L2.St} {H : Hp} {s : Shared} {Q : VK} {us : List Value} {vs : List V} (F : FnG X.prog X.w X.K X.mg X.base k f fd ps sp) (hr : Room k X.A) (hG : X.A.guards = some []) (hb : Binds X.K fd ps []) (tk : L2.Takes X W)
    (I : Inv X pins σ H s) (r : Vals vs us) (h : sp vs H Q fun cls d H' => W cls d σ H') : wpAny (model X.prog X.w) X.A (call (.ref f) us) (EP X pins σ Q) X.xe s := by
  have hl : (us ++ []).length = ps.length := by rw [List.append_nil, ← r.length]; exact F.len _ _ _ _ h
  have hb2 : BindsTo s fd ⟨us, []⟩ (ps.zip us) := by have := hb s us I.kIn hl; rwa [List.append_nil] at this
  apply wpAny_call
  refine codeAny_mono (F.run X.A X.stack s H ⟨us, []⟩ us vs Q _ hr hG I.env0 hb2 r h) ?_
  intro res s' z
  cases res with
  | error ex => exact tk _ _ (XE.of_call I (fun _ _ _ q => q) z)
  | ok fl =>
    cases fl with
    | ret u => exact I.after z
    | next => exact z.elim
    | brk => exact z.elim
    | cont => exact z.elim
theorem pe_callG (F : FnG X.prog X.w X.K X.mg X.base k f fd ps sp) (hr : Room k X.A) (hG : X.A.guards = some []) (hg : Gl X x) (hm : X.mg x = some (.ref f)) (hk : PySem.W.keepIn X.K (.ref f) = true) (hb : Binds X.K fd ps []) (tk : L2.Takes X W)
    (ha : PA X (e :: es) t) (hdb : (x == ("__debug__" : Str)) = false := by decide) (he : starEach (e :: es) X.env = (false, eval e X.env) :: starEach es X.env := by rfl) (hpl : (backTo pos (starEach es X.env)).any (·.1) = false := by rfl) :
    PE X (.Call (.Name x p) (e :: es) [] pos) (fun σ H Q => t σ H fun vs H1 => sp vs H1 Q fun cls d H' => W cls d σ H') := by
  constructor
  intro pins s σ H Q I h
  apply wpAny_Call_Name_kw
  refine ld_glob I hg hm ?_ hdb
  refine PySem.W.callWith_K (h₀ := X.base) I.ok.mod.kin hk ?_ he hpl
  refine thn (ha.run pos pins s σ H _ I h) ?_
  rintro us s1 ⟨vs, H1, I1, r, q⟩
  exact ⟨I1.kIn, runG F hr hG hb tk I1 r q⟩
end

abbrev SemF := List T → (T → List T → Prop) → (Rz → List T → Prop) → Prop
def spQ (K : PySem.W.Frag) (n : Nat) (io : List Nat) (spec : SemF) : Sp := fun vs H Qv E => vs.length = n ∧ ∃ (ow : Ow) (args : List T) (Q : T → List T → Prop) (EE : Rz → List T → Prop),
  args.length = n ∧ (∀ (i : Nat) (t : T), args[i]? = some t → ∃ v, vs[i]? = some v ∧ Tq K H ow (.sl i) v t) ∧ spec args Q EE ∧
  (∀ (v : V) (t : T) (H' : Hp) (ow' : Ow) (outs : List T), Fs H ow H' ow' → Tq K H' ow' (.tm 0) v t → outs.length = io.length → (∀ (j i : Nat) (u : T), io[j]? = some i → outs[j]? = some u → ∃ v, vs[i]? = some v ∧ Tq K H' ow' (.sl i) v u) → Q t outs → Qv v H') ∧
  (∀ (r : Rz) (d : Option Addr) (H' : Hp) (ow' : Ow) (outs : List T), Fs H ow H' ow' → Rzp K H' ow' d r → outs.length = io.length → (∀ (j i : Nat) (u : T), io[j]? = some i → outs[j]? = some u → ∃ v, vs[i]? = some v ∧ Tq K H' ow' (.sl i) v u) → EE r outs → E (.ref r.C) d H')
def outsOf : List Nat → Env → Option (List T)
  | [], _ => some []
  | i :: is, env => match env[i]? with
    | some (some t) => match outsOf is env with
      | some ts => some (t :: ts)
      | none => none
    | _ => none
theorem outs_get : ∀ {io : List Nat} {env : Env} {ts : List T}, outsOf io env = some ts → ts.length = io.length ∧ ∀ (j i : Nat) (u : T), io[j]? = some i → ts[j]? = some u → env[i]? = some (some u)
  | [], env, ts, h => by cases h; exact ⟨rfl, fun j i u e => by simp at e⟩
  | i :: is, env, ts, h => by
    unfold outsOf at h
    split at h
    · rename_i t e
      split at h
      · rename_i us e2
        cases h
        obtain ⟨h1, h2⟩ := outs_get e2
        refine ⟨by rw [List.length_cons, List.length_cons, h1], fun j i' u ej eu => ?_⟩
        cases j with
        | zero => simp at ej eu; subst ej eu; exact e
        | succ j => exact h2 j i' u (by simpa using ej) (by simpa using eu)
      · cases h
    · cases h
def EndsF (io : List Nat) (Q : T → List T → Prop) (EE : Rz → List T → Prop) : EndsQ where
  nx := fun env => match outsOf io env with
    | some ts => Q (.fz .non) ts
    | none => False
  rt := fun t env => match outsOf io env with
    | some ts => Q t ts
    | none => False
  bk := fun _ => False
  ct := fun _ => False
  ex := fun r env => match outsOf io env with
    | some ts => EE r ts
    | none => False
def env0 (N : Nat) (args : List T) : Env := args.map some ++ List.replicate (N - args.length) none
def QFn (P : Program) (w : World) (K : PySem.W.Frag) (mg : Str → Option Value) (base : Heap) (k : Nat) (f : Addr) (fd : FuncData) (ps : List Str) (io : List Nat) (spec : SemF) : Prop := FnG P w K mg base k f fd ps (spQ K ps.length io spec)
section
variable {P : Program} {w : World} {K : PySem.W.Frag} {mg : Str → Option Value} {base : Heap}
theorem QFn.mono {j k : Nat} {f : Addr} {fd : FuncData} {ps : List Str} {io : List Nat} {spec : SemF} (F : QFn P w K mg base j f fd ps io spec) (h : j ≤ k) : QFn P w K mg base k f fd ps io spec := FnG.mono F h
theorem QFn.imp {k : Nat} {f : Addr} {fd : FuncData} {ps : List Str} {io : List Nat} {spec spec' : SemF} (F : QFn P w K mg base k f fd ps io spec) (h : ∀ a Q E, spec' a Q E → spec a Q E) : QFn P w K mg base k f fd ps io spec' :=
  FnG.imp F fun vs H Qv E ⟨hl, ow, args, Q, EE, h1, h2, h3, h4, h5⟩ => ⟨hl, ow, args, Q, EE, h1, h2, h _ _ _ h3, h4, h5⟩
theorem start_get {N : List Str} {vs : List V} {i : Nat} {v : V} (h : vs[i]? = some v) : (L2.start N vs)[i]? = some (some v) := by
  unfold L2.start
  have hi : i < vs.length := (List.getElem?_eq_some_iff.mp h).1
  rw [List.getElem?_append_left (by simpa using hi), List.getElem?_map, h]
  rfl
theorem env0_get {N : Nat} {args : List T} {i : Nat} {t : T} (h : (env0 N args)[i]? = some (some t)) : args[i]? = some t := by
  unfold env0 at h
  by_cases hi : i < args.length
  · rw [List.getElem?_append_left (by simpa using hi), List.getElem?_map] at h
    cases e : args[i]? with
    | none => rw [e] at h; cases h
    | some u => rw [e] at h; cases h; rfl
  · rw [List.getElem?_append_right (by simpa using hi), List.getElem?_replicate] at h
    split at h <;> cases h
theorem qfn_of {k : Nat} {x qual : Str} {st : Stmt} {f : Addr} {fd : FuncData} {N ps : List Str} {io : List Nat} {spec : SemF} (F : Fun K x qual st f fd) (S : FnScope N ps (defScope st)) (hio : (io.all fun i => decide (i < ps.length)) = true) (hpN : ps.length ≤ N.length)
    (hb : ∀ (cdv : Value) (A : Around) (outer : List PySem.Env) (s : Shared) (H : Hp) (E : XK) (W : WX), Room k (A.deeper (envOfC qual (defScope st) s.heap.objs.size f cdv)) → A.guards = some [] → L2.Takes (cxOf (L2.CX P w) P w K mg base N qual (defScope st) f cdv A outer s H E) W →
      PassesOwn (model P w) (A.deeper (envOfC qual (defScope st) s.heap.objs.size f cdv)) (envOfC qual (defScope st) s.heap.objs.size f cdv) (cxOf (L2.CX P w) P w K mg base N qual (defScope st) f cdv A outer s H E).xe →
      ∃ q, QSs (cxOf (L2.CX P w) P w K mg base N qual (defScope st) f cdv A outer s H E) W io (defBody st) q ∧ ∀ args Q E, args.length = ps.length → spec args Q E → q (EndsF io Q E) (env0 N.length args)) : QFn P w K mg base (k + 1) f fd ps io spec := by
  refine fnG_of F S (fun vs H Q E h => h.1) fun cdv A outer s H vs Qv E hr hG ⟨hl, ow, args, Q, EE, ha, h2, h3, h4, h5⟩ => ?_
  obtain ⟨q, hq, hs⟩ := hb cdv A outer s H E (fun cls d σ H' => E cls d H') hr hG (takes_of rfl rfl rfl rfl) (passes_of rfl)
  refine ⟨_, hq.run, ow, env0 N.length args, EndsF io Q EE, ⟨?_, fun i t e => ?_⟩, hs args Q EE ha h3, ?_⟩
  · unfold env0 L2.start
    rw [List.length_append, List.length_append, List.length_map, List.length_map, List.length_replicate, List.length_replicate, ha, hl]
  · obtain ⟨v, e1, r⟩ := h2 i t (env0_get e)
    exact ⟨v, start_get e1, r⟩
  · have outs : ∀ {σ' : L2.St} {H' : Hp} {ow' : Ow} {env' : Env} {ts : List T}, Ios io (L2.start N vs) σ' → StOk K H' ow' σ' env' → outsOf io env' = some ts → ts.length = io.length ∧ ∀ (j i : Nat) (u : T), io[j]? = some i → ts[j]? = some u → ∃ v, vs[i]? = some v ∧ Tq K H' ow' (.sl i) v u := fun {σ' H' ow' env' ts} io' s' e => by
      obtain ⟨g1, g2⟩ := outs_get e
      refine ⟨g1, fun j i u ej eu => ?_⟩
      obtain ⟨v, e1, r⟩ := s'.at_ i u (g2 j i u ej eu)
      have mi : i ∈ io := List.mem_of_getElem? ej
      rw [io' i mi] at e1
      have hi : i < vs.length := by rw [hl]; exact of_decide_eq_true (List.all_eq_true.mp hio i mi)
      have e2 : vs[i]? = some vs[i] := by simp [hi]
      rw [start_get e2] at e1
      cases e1
      exact ⟨_, e2, r⟩
    refine ⟨fun σ' H' ow' env' fs i s' z => ?_, fun v t σ' H' ow' env' fs i s' r z => ?_, fun _ _ _ _ _ _ _ z => z.elim, fun _ _ _ _ _ _ _ z => z.elim, fun r d σ' H' ow' env' fs i s' rz z => ?_⟩
    · show Qv .non H'
      simp only [EndsF] at z
      split at z
      · rename_i ts e
        obtain ⟨g1, g2⟩ := outs i s' e
        exact h4 _ _ H' ow' ts fs (Tq.fz_.mpr .non) g1 g2 z
      · exact z.elim
    · simp only [EndsF] at z
      split at z
      · rename_i ts e
        obtain ⟨g1, g2⟩ := outs i s' e
        exact h4 _ _ H' ow' ts fs r g1 g2 z
      · exact z.elim
    · simp only [EndsF] at z
      split at z
      · rename_i ts e
        obtain ⟨g1, g2⟩ := outs i s' e
        exact h5 r d H' ow' ts fs rz g1 g2 z
      · exact z.elim
end
end QV

set_option Elab.async false
set_option linter.all false
set_option maxRecDepth 100000
set_option maxHeartbeats 2000000
namespace QV
open PySem L2

abbrev SemD := Env → (List D → Env → Prop) → XQ → Prop
def tA (K : PySem.W.Frag) (W : WX) (M : List Nat) (ks : List (Option Nat)) (q : SemD) : TA := fun σ H Qv => ∃ (n : Nat) (ow : Ow) (env : Env) (Q : List D → Env → Prop) (E : XQ), StOk K H ow σ env ∧ q env Q E ∧
  (∀ (vs : List V) (ds : List D) (H' : Hp) (ow' : Ow) (env' : Env), Stp M n H ow H' ow' → StOk K H' ow' σ env' → Out M env env' → vs.length = ks.length → ds.length = ks.length →
    (∀ (j : Nat) (v : V) (d : D), vs[j]? = some v → ds[j]? = some d → (ks[j]? = some none → Rp K (Bs H' ow') v d) ∧ ∀ i, ks[j]? = some (some i) → σ[i]? = some (some v)) → Q ds env' → Qv vs H') ∧ Xk K W M σ H n ow env E
structure QA (X : Cx) (W : WX) (M : List Nat) (ks : List (Option Nat)) (es : List Expr) (q : SemD) : Prop where
  run : PA X es (tA X.K W M ks q)
def aNil : SemD := fun env Q _ => Q [] env
def aCons (q : SemE) (qs : SemD) : SemD := fun env Q E => q env (fun t env1 => match t with
  | .fz d => qs env1 (fun ds env2 => Q (d :: ds) env2) E
  | _ => False) E
def aOwn (i : Nat) (qs : SemD) : SemD := fun env Q E => match env[i]? with
  | some (some _) => qs env (fun ds env2 => Q (.non :: ds) env2) E
  | _ => False
section
variable {X : Cx} {W : WX} {M Ma Mb : List Nat} {e : Expr} {es : List Expr} {q : SemE} {qs : SemD} {ks : List (Option Nat)} {pos : Pos}
theorem a_nil : QA X W [] [] [] aNil := ⟨PA_imp pa_nil fun σ H Qv ⟨n, ow, env, Q, E, s, hq, k, x⟩ => k [] [] H ow env Stp.refl s Out.refl rfl rfl (fun j v d h => by simp at h) hq⟩
theorem a_cons (h1 : QE X W Ma e q) (h2 : QA X W Mb ks es qs) (hs : starEach (e :: es) X.env = (false, eval e X.env) :: starEach es X.env := by rfl) : QA X W (Ma ++ Mb) (none :: ks) (e :: es) (aCons q qs) :=
  ⟨PA_imp (pa_cons h1.run h2.run hs) fun σ H Qv ⟨n, ow, env, Q, E, s, hq, k, x⟩ => ⟨n, ow, env, _, E, s, hq, fun v t H1 ow1 env1 y1 s1 o1 r1 z => by
    split at z
    · refine ⟨n + 1, ow1, env1, _, E, s1, z, fun vs ds H2 ow2 env2 y2 s2 o2 l1 l2 hv z2 => ?_, x.step y1 o1 subl subr (Nat.le_refl _) (Nat.le_succ _)⟩
      refine k _ _ H2 ow2 env2 (y1.trans y2 subl subr (Nat.le_refl _) (Nat.le_succ _)) s2 (o1.trans o2 subl subr) (by rw [List.length_cons, List.length_cons, l1]) (by rw [List.length_cons, List.length_cons, l2]) (fun j v' d' ev ed => ?_) z2
      cases j with
      | zero =>
        simp at ev ed
        subst ev ed
        exact ⟨fun _ => (Tq.fz_.mp r1).mono y2.bs, fun i hi => by simp at hi⟩
      | succ j => exact hv j v' d' (by simpa using ev) (by simpa using ed)
    · exact z.elim, fun r d H' ow' env' y s' o => x r d H' ow' env' (y.mono subl (Nat.le_refl _)) s' (o.mono subl)⟩⟩
theorem a_own (i : Nat) {x : Str} {px : Pos} (h2 : QA X W Mb ks es qs) (hN : X.N[i]? = some x := by rfl) (hv : Vis X.env.scope x := by first | exact Or.inl rfl | exact Or.inr (Or.inl rfl) | exact Or.inr (Or.inr rfl)) (hd : (x == ("__debug__" : Str)) = false := by decide)
    (hcd : (x == ("__classdict__" : Str)) = false := by decide) (hs : starEach (.Name x px :: es) X.env = (false, eval (.Name x px) X.env) :: starEach es X.env := by rfl) : QA X W Mb (some i :: ks) (.Name x px :: es) (aOwn i qs) :=
  ⟨PA_imp (pa_cons (pe_var (i := i) hN hv hd hcd) h2.run hs) fun σ H Qv ⟨n, ow, env, Q, E, s, hq, k, x⟩ => by
    unfold aOwn at hq
    split at hq
    · rename_i t e
      obtain ⟨v, e1, r⟩ := s.at_ i t e
      refine ⟨v, e1, n, ow, env, _, E, s, hq, fun vs ds H2 ow2 env2 y2 s2 o2 l1 l2 hv z2 => ?_, x⟩
      refine k _ _ H2 ow2 env2 y2 s2 o2 (by rw [List.length_cons, List.length_cons, l1]) (by rw [List.length_cons, List.length_cons, l2]) (fun j v' d' ev ed => ?_) z2
      cases j with
      | zero =>
        simp at ev ed
        subst ev ed
        exact ⟨fun h => by simp at h, fun i' hi => by simp at hi; subst hi; exact e1⟩
      | succ j => exact hv j v' d' (by simpa using ev) (by simpa using ed)
    · exact hq.elim⟩
theorem rps_of {K : PySem.W.Frag} {B : Hp} : ∀ {n : Nat} {vs : List V} {ds : List D}, vs.length = n → ds.length = n → (∀ (j : Nat) (v : V) (d : D), vs[j]? = some v → ds[j]? = some d → Rp K B v d) → Rps K B vs ds
  | 0, [], [], _, _, _ => .nil
  | n + 1, v :: vs, d :: ds, h1, h2, h => .cons (h 0 v d rfl rfl) (rps_of (n := n) (by simpa using h1) (by simpa using h2) fun j v' d' e1 e2 => h (j + 1) v' d' (by simpa using e1) (by simpa using e2))
theorem tA_data {K : PySem.W.Frag} {σ : L2.St} {H : Hp} {Qv : List V → Hp → Prop} {m : Nat} {ow : Ow} {env : Env} {Q : List D → Env → Prop} {E : XQ} (hk : (ks.all fun x => x.isNone) = true) (s : StOk K H ow σ env) (hq : qs env Q E) (x : Xk K W M σ H m ow env E)
    (k : ∀ (vs : List V) (ds : List D) (H' : Hp) (ow' : Ow) (env' : Env), Stp M m H ow H' ow' → StOk K H' ow' σ env' → Out M env env' → vs.length = ks.length → Rps K (Bs H' ow') vs ds → Q ds env' → Qv vs H') : tA K W M ks qs σ H Qv :=
  ⟨m, ow, env, Q, E, s, hq, fun vs ds H' ow' env' y s' o l1 l2 hv z => k vs ds H' ow' env' y s' o l1 (rps_of l1 l2 fun j v d e1 e2 => (hv j v d e1 e2).1 (by
    have hj : j < ks.length := by have := (List.getElem?_eq_some_iff.mp e1).1; omega
    have e : ks[j]? = some ks[j] := by simp [hj]
    have hn := List.all_eq_true.mp hk ks[j] (List.getElem_mem hj)
    rw [e]
    cases e3 : ks[j] with
    | none => rfl
    | some i => rw [e3] at hn; cases hn)) z, x⟩
def sLst (qs : SemD) : SemE := fun env Q E => qs env (fun ds env1 => Q (.ow .lst ds) env1) E
def sTup (qs : SemD) : SemE := fun env Q E => qs env (fun ds env1 => Q (.fz (.nd .tup ds)) env1) E
theorem q_lst (h : QA X W M ks es qs) (hk : (ks.all fun x => x.isNone) = true := by rfl) (hz : ks.length ≤ sizeLine := by decide) : QE X W M (.List es pos) (sLst qs) :=
  ⟨PE_imp (pe_lst h.run) fun σ H Qv ⟨n, ow, env, Q, E, s, hq, k, x⟩ => tA_data hk s hq x fun vs ds H' ow' env' y s' o l1 r z => ⟨by omega, fun p hp =>
      k _ _ _ (Ow.put ow' p (.tm n)) env' (y.trans (Stp.new hp) (fun _ h => h) nilsub (Nat.le_refl _) (Nat.le_refl _)) (s'.stp0 (n := 0) (Stp.new hp)) o (Tq.newL hp (by omega) r) z⟩⟩
theorem q_tup {x1} (h : QA X W M ks es qs) (hk : (ks.all fun x => x.isNone) = true := by rfl) (hz : ks.length ≤ sizeLine := by decide) : QE X W M (.Tuple es x1 pos) (sTup qs) :=
  ⟨PE_imp (pe_tup h.run) fun σ H Qv ⟨n, ow, env, Q, E, s, hq, k, x⟩ => tA_data hk s hq x fun vs ds H' ow' env' y s' o l1 r z => ⟨by omega, fun p hp =>
    k _ _ _ (Ow.put ow' p .base) env' (y.trans (Stp.new hp) (fun _ h => h) nilsub (Nat.le_refl _) (Nat.le_refl _)) (s'.stp0 (n := 0) (Stp.new hp)) o
      (Tq.fz_.mpr (.tup (by rw [bs_of put_same, upd_same]) (by omega) (r.mono (Stp.bs (M := []) (n := 0) (Stp.new hp))))) z⟩⟩
def OpL (K : PySem.W.Frag) (r : List V → Hp → VK → Prop) (g : List D → (T → Prop) → Prop) : Prop := ∀ (H : Hp) (ow : Ow) (n : Nat) (vs : List V) (ds : List D) (Q : T → Prop) (Qv : VK), Rps K (Bs H ow) vs ds → g ds Q →
  (∀ v w H' ow', Stp [] n H ow H' ow' → Tq K H' ow' (.tm n) v w → Q w → Qv v H') → r vs H Qv
def sB (qs : SemD) (g : List D → (T → Prop) → Prop) : SemE := fun env Q E => qs env (fun ds env1 => g ds fun w => Q w env1) E
theorem opl_run {K : PySem.W.Frag} {r : List V → Hp → VK → Prop} {g : List D → (T → Prop) → Prop} (hg : OpL K r g) (hk : (ks.all fun x => x.isNone) = true) {σ : L2.St} {H : Hp} {Qv : VK} (h : tQ K W M (sB qs g) σ H Qv) : tA K W M ks qs σ H fun vs H1 => r vs H1 Qv := by
  obtain ⟨n, ow, env, Q, E, s, hq, k, x⟩ := h
  exact tA_data hk s hq x fun vs ds H' ow' env' y s' o l1 rr z => hg H' ow' n vs ds _ Qv rr z fun v w H2 ow2 y2 r2 z2 => k v w H2 ow2 env' (y.trans y2 (fun _ h => h) nilsub (Nat.le_refl _) (Nat.le_refl _)) (s'.stp0 y2) o r2 z2
variable {id T' : String} {r : List V → Hp → VK → Prop} {x : Str} {p : Pos} {pa : SemP} {root : Option Nat}
theorem q_bl_ {g : List D → (T → Prop) → Prop} (hc : CallR X (.builtin id) r) (hr : OpL X.K r g) (hg : Gl X x) (hm : X.mg x = none) (hv : bootBuiltins x = some (.builtin id)) (ha : QA X W M ks (e :: es) qs) (hk : (ks.all fun x => x.isNone) = true := by rfl) (hn : x ≠ "__name__" := by decide) (hdb : (x == ("__debug__" : Str)) = false := by decide)
    (he : starEach (e :: es) X.env = (false, eval e X.env) :: starEach es X.env := by rfl) (hpl : (backTo pos (starEach es X.env)).any (·.1) = false := by rfl) : QE X W M (.Call (.Name x p) (e :: es) [] pos) (sB qs g) :=
  ⟨PE_imp (pe_callB hc hg hm hv ha.run hn hdb he hpl) fun _ _ _ h => opl_run hr hk h⟩
theorem op1_run {K : PySem.W.Frag} {g : T → (T → Prop) → Prop} (hr : Op1 K (fun x H Q => r [x] H Q) g) {σ : L2.St} {H : Hp} {Qv : VK} (h : tQ K W M (s1 pa g) σ H Qv) : tCB r (tCons (tP K W M root pa) tNil) σ H Qv := by
  obtain ⟨n, ow, env, Q, E, s, hq, k, x⟩ := h
  exact ⟨n, ow, env, _, E, s, hq, fun v t pt H' ow' env' y1 s' o r q => hr H' ow' n v t _ Qv (r.ro s') q fun v' w H2 ow2 y2 r3 q3 => k v' w H2 ow2 env' (y1.trans y2 (fun _ h => h) nilsub (Nat.le_refl _) (Nat.le_refl _)) (s'.stp0 y2) o r3 q3, x⟩
theorem q_b1 {g : T → (T → Prop) → Prop} (hc : CallR X (.builtin id) r) (hr : Op1 X.K (fun x H Q => r [x] H Q) g) (hg : Gl X x) (hm : X.mg x = none) (hv : bootBuiltins x = some (.builtin id)) (ha : QP X W M root e pa) (hn : x ≠ "__name__" := by decide) (hdb : (x == ("__debug__" : Str)) = false := by decide)
    (he : starEach [e] X.env = (false, eval e X.env) :: starEach [] X.env := by rfl) (hpl : (backTo pos (starEach [] X.env)).any (·.1) = false := by rfl) : QE X W M (.Call (.Name x p) [e] [] pos) (s1 pa g) :=
  ⟨PE_imp (pe_callB hc hg hm hv (pa_cons ha.run pa_nil he) hn hdb he hpl) fun _ _ _ h => op1_run hr h⟩
theorem q_ty1 {g : T → (T → Prop) → Prop} (hc : CallR X (.type T') r) (hr : Op1 X.K (fun x H Q => r [x] H Q) g) (hg : Gl X x) (hm : X.mg x = none) (hv : bootBuiltins x = some (.type T')) (ha : QP X W M root e pa) (hn : x ≠ "__name__" := by decide) (hdb : (x == ("__debug__" : Str)) = false := by decide)
    (he : starEach [e] X.env = (false, eval e X.env) :: starEach [] X.env := by rfl) (hpl : (backTo pos (starEach [] X.env)).any (·.1) = false := by rfl) : QE X W M (.Call (.Name x p) [e] [] pos) (s1 pa g) :=
  ⟨PE_imp (pe_callTy hc hg hm hv (pa_cons ha.run pa_nil he) hn hdb he hpl) fun _ _ _ h => op1_run hr h⟩
end

def lenG (t : T) (Q : T → Prop) : Prop := match t with
  | .fz (.str x) => x.length ≤ sizeLine ∧ Q (.fz (.int x.length))
  | .fz (.nd .lst ds) => Q (.fz (.int ds.length))
  | .fz (.nd .tup ds) => Q (.fz (.int ds.length))
  | .ow .lst ds => Q (.fz (.int ds.length))
  | .ow .tup ds => Q (.fz (.int ds.length))
  | .nd .lst ts => Q (.fz (.int ts.length))
  | .nd .tup ts => Q (.fz (.int ts.length))
  | _ => False
section
variable {K : PySem.W.Frag} {X : Cx}
def rLenAll (K : PySem.W.Frag) : List V → Hp → VK → Prop := fun xs H Q => (∃ p ys, xs = [.ref p] ∧ (SqL K H p ys ∨ SqT K H p ys) ∧ Q (.int ys.length) H) ∨ (∃ z, xs = [.str z] ∧ z.length ≤ sizeLine ∧ Q (.int z.length) H)
theorem c_len : CallR X (.builtin "len") (rLenAll X.K) := call_len_seq.or call_len_str
theorem g_len : Op1 K (fun x H Q => rLenAll K [x] H Q) lenG := by
  intro H ow n x t Q Qv rx h k
  have fin : ∀ {a : Addr} {vs : List V} {m : Nat}, x = .ref a → (SqL K H a vs ∨ SqT K H a vs) → vs.length = m → Q (.fz (.int m)) → rLenAll K [x] H Qv := fun {a vs m} e c l q => by
    subst e l
    exact .inl ⟨a, vs, rfl, c, k _ _ H ow Stp.refl (Tq.fz_.mpr (.int _)) q⟩
  have kid : ∀ {kd : Kd} {ts : List T}, t = .nd kd ts → ∃ a dx vs, x = .ref a ∧ Cell H a dx kd vs ∧ vs.length = ts.length := fun {kd ts} e => by
    subst e
    obtain ⟨l, S, r⟩ := rx
    cases r with
    | nd c _ r => exact ⟨_, _, _, rfl, c, r.len⟩
  unfold lenG at h
  split at h
  · exact .inr ⟨_, by rw [rx.str], h.1, k _ _ H ow Stp.refl (Tq.fz_.mpr (.int _)) h.2⟩
  · obtain ⟨a, vs, e, c, _, r⟩ := rx.lst rfl
    exact fin e (.inl (.inl (.inl c))) r.len h
  · obtain ⟨a, vs, e, c, _, r⟩ := rx.tup rfl
    exact fin e (.inr c) r.len h
  · obtain ⟨a, vs, e, c, _, r⟩ := rx.lst rfl
    exact fin e (.inl (.inl (.inl c))) r.len h
  · obtain ⟨a, vs, e, c, _, r⟩ := rx.tup rfl
    exact fin e (.inr c) r.len h
  · obtain ⟨a, dx, vs, e, c, l⟩ := kid rfl
    exact fin e (.inl (.inl (.inl c.at_))) l h
  · obtain ⟨a, dx, vs, e, c, l⟩ := kid rfl
    exact fin e (.inr (.inl (.inl c.at_))) l h
  · exact h.elim
def seqT : T → Option (List D)
  | .fz (.nd .lst ds) => some ds
  | .fz (.nd .tup ds) => some ds
  | .ow .lst ds => some ds
  | .ow .tup ds => some ds
  | _ => none
theorem Ro.seq {H : Hp} {ow : Ow} {x : V} {t : T} {ds : List D} (h : Ro K H ow x t) (e : seqT t = some ds) : ∃ a vs, x = .ref a ∧ (SqL K H a vs ∨ SqT K H a vs) ∧ vs.length ≤ sizeLine ∧ Rps K (Bs H ow) vs ds := by
  unfold seqT at e
  split at e <;> first | cases e | skip
  · obtain ⟨a, vs, e, c, z, r⟩ := h.lst (ds := ds) rfl
    exact ⟨a, vs, e, .inl (.inl (.inl c)), z, r⟩
  · obtain ⟨a, vs, e, c, z, r⟩ := h.tup (ds := ds) rfl
    exact ⟨a, vs, e, .inr c, z, r⟩
  · obtain ⟨a, vs, e, c, z, r⟩ := h.lst (ds := ds) rfl
    exact ⟨a, vs, e, .inl (.inl (.inl c)), z, r⟩
  · obtain ⟨a, vs, e, c, z, r⟩ := h.tup (ds := ds) rfl
    exact ⟨a, vs, e, .inr c, z, r⟩
def listG (t : T) (Q : T → Prop) : Prop := match seqT t with
  | some ds => Q (.ow .lst ds)
  | none => False
theorem g_list : Op1 K (fun x H Q => ∃ p ys, [x] = [.ref p] ∧ (SqL K H p ys ∨ SqT K H p ys) ∧ ∀ l, H l = none → Q (.ref l) (upd H l (.lst ys))) listG := by
  intro H ow n x t Q Qv rx h k
  unfold listG at h
  split at h
  · rename_i ds e
    obtain ⟨a, vs, rfl, c, z, r⟩ := rx.seq e
    exact ⟨a, vs, rfl, c, fun p hp => k _ _ _ (Ow.put ow p (.tm n)) (Stp.new hp) (Tq.newL hp z r) h⟩
  · exact h.elim
theorem ints_of {B : Hp} : ∀ {vs : List V} {ns : List Int}, Rps K B vs (ns.map .int) → vs = ns.map V.int
  | _, [], .nil => rfl
  | _, n :: ns, .cons r s => by
    cases r
    rw [List.map_cons, ints_of s]
theorem bls_of {B : Hp} : ∀ {vs : List V} {ns : List Bool}, Rps K B vs (ns.map .bl) → vs = ns.map V.bl
  | _, [], .nil => rfl
  | _, n :: ns, .cons r s => by
    cases r
    rw [List.map_cons, bls_of s]
theorem of_ints {B : Hp} : ∀ ns : List Int, Rps K B (ns.map V.int) (ns.map .int)
  | [] => .nil
  | n :: ns => .cons (.int n) (of_ints ns)
def sumG (t : T) (Q : T → Prop) : Prop := ∃ ns : List Int, shL t = some (ns.map .int) ∧ Q (.fz (.int ns.sum))
theorem g_sum : Op1 K (fun x H Q => rSum K [x] H Q) sumG := by
  intro H ow n x t Q Qv rx ⟨ns, e, h⟩ k
  obtain ⟨a, vs, rfl, c, z, r⟩ := rx.lst e
  have := ints_of r
  subst this
  exact ⟨a, ns, rfl, .inl (.inl c), k _ _ H ow Stp.refl (Tq.fz_.mpr (.int _)) h⟩
def allG (t : T) (Q : T → Prop) : Prop := ∃ bs : List Bool, shL t = some (bs.map .bl) ∧ Q (.fz (.bl (bs.all id)))
def anyG (t : T) (Q : T → Prop) : Prop := ∃ bs : List Bool, shL t = some (bs.map .bl) ∧ Q (.fz (.bl (bs.any id)))
theorem g_all : Op1 K (fun x H Q => rAll K [x] H Q) allG := by
  intro H ow n x t Q Qv rx ⟨ns, e, h⟩ k
  obtain ⟨a, vs, rfl, c, z, r⟩ := rx.lst e
  have := bls_of r
  subst this
  exact ⟨a, ns, rfl, .inl (.inl c), k _ _ H ow Stp.refl (Tq.fz_.mpr (.bl _)) h⟩
theorem g_any : Op1 K (fun x H Q => rAny K [x] H Q) anyG := by
  intro H ow n x t Q Qv rx ⟨ns, e, h⟩ k
  obtain ⟨a, vs, rfl, c, z, r⟩ := rx.lst e
  have := bls_of r
  subst this
  exact ⟨a, ns, rfl, .inl (.inl c), k _ _ H ow Stp.refl (Tq.fz_.mpr (.bl _)) h⟩
def absG (t : T) (Q : T → Prop) : Prop := match t with
  | .fz (.int i) => Q (.fz (.int (if i < 0 then -i else i)))
  | _ => False
theorem g_abs : Op1 K (fun x H Q => ∃ i, [x] = [V.int i] ∧ Q (.int (if i < 0 then -i else i)) H) absG := by
  intro H ow n x t Q Qv rx h k
  unfold absG at h
  split at h
  · exact ⟨_, by rw [rx.int], k _ _ H ow Stp.refl (Tq.fz_.mpr (.int _)) h⟩
  · exact h.elim
def intG1 (t : T) (Q : T → Prop) : Prop := match t with
  | .fz (.int i) => Q (.fz (.int i))
  | .fz (.bl b) => Q (.fz (.int (if b then 1 else 0)))
  | _ => False
theorem g_int1 : Op1 K (fun x H Q => (∃ i, [x] = [V.int i] ∧ Q (.int i) H) ∨ ∃ k, [x] = [V.bl k] ∧ Q (.int (if k then 1 else 0)) H) intG1 := by
  intro H ow n x t Q Qv rx h k
  unfold intG1 at h
  split at h
  · exact .inl ⟨_, by rw [rx.int], k _ _ H ow Stp.refl (Tq.fz_.mpr (.int _)) h⟩
  · exact .inr ⟨_, by rw [rx.bl], k _ _ H ow Stp.refl (Tq.fz_.mpr (.int _)) h⟩
  · exact h.elim
def max2G (ds : List D) (Q : T → Prop) : Prop := match ds with
  | [.int i, .int j] => Q (.fz (.int (max i j)))
  | _ => False
def min2G (ds : List D) (Q : T → Prop) : Prop := match ds with
  | [.int i, .int j] => Q (.fz (.int (min i j)))
  | _ => False
theorem g_max2 : OpL K (fun xs H Q => ∃ i j, xs = [.int i, .int j] ∧ Q (.int (if j > i then j else i)) H) max2G := by
  intro H ow n vs ds Q Qv r h k
  unfold max2G at h
  split at h
  · rename_i i j
    cases r with
    | cons r1 r => cases r with
      | cons r2 r =>
        cases r
        cases r1
        cases r2
        refine ⟨i, j, rfl, k _ _ H ow Stp.refl (Tq.fz_.mpr ?_) h⟩
        have e : (if j > i then j else i) = max i j := by split <;> omega
        rw [e]
        exact .int _
  · exact h.elim
theorem g_min2 : OpL K (fun xs H Q => ∃ i j, xs = [.int i, .int j] ∧ Q (.int (if j < i then j else i)) H) min2G := by
  intro H ow n vs ds Q Qv r h k
  unfold min2G at h
  split at h
  · rename_i i j
    cases r with
    | cons r1 r => cases r with
      | cons r2 r =>
        cases r
        cases r1
        cases r2
        refine ⟨i, j, rfl, k _ _ H ow Stp.refl (Tq.fz_.mpr ?_) h⟩
        have e : (if j < i then j else i) = min i j := by split <;> omega
        rw [e]
        exact .int _
  · exact h.elim
end

def asm : List (Option Nat) → List D → Env → Option (List T)
  | [], [], _ => some []
  | none :: ks, d :: ds, env => match asm ks ds env with
    | some ts => some (.fz d :: ts)
    | none => none
  | some i :: ks, _ :: ds, env => match env[i]? with
    | some (some t) => match asm ks ds env with
      | some ts => some (t :: ts)
      | none => none
    | _ => none
  | _, _, _ => none
theorem asm_get : ∀ {ks : List (Option Nat)} {ds : List D} {env : Env} {ts : List T}, asm ks ds env = some ts → ts.length = ks.length ∧ ∀ (j : Nat) (t : T), ts[j]? = some t → (∃ d, ks[j]? = some none ∧ ds[j]? = some d ∧ t = .fz d) ∨ ∃ i, ks[j]? = some (some i) ∧ env[i]? = some (some t)
  | [], [], env, ts, h => by cases h; exact ⟨rfl, fun j t e => by simp at e⟩
  | none :: ks, d :: ds, env, ts, h => by
    simp only [asm] at h
    split at h
    · rename_i us e
      cases h
      obtain ⟨h1, h2⟩ := asm_get e
      refine ⟨by rw [List.length_cons, List.length_cons, h1], fun j t et => ?_⟩
      cases j with
      | zero => simp at et; subst et; exact .inl ⟨d, rfl, rfl, rfl⟩
      | succ j => simpa using h2 j t (by simpa using et)
    · cases h
  | some i :: ks, d :: ds, env, ts, h => by
    simp only [asm] at h
    split at h
    · rename_i u eu
      split at h
      · rename_i us e
        cases h
        obtain ⟨h1, h2⟩ := asm_get e
        refine ⟨by rw [List.length_cons, List.length_cons, h1], fun j t et => ?_⟩
        cases j with
        | zero => simp at et; subst et; exact .inr ⟨i, rfl, eu⟩
        | succ j => simpa using h2 j t (by simpa using et)
      · cases h
    · cases h
  | [], _ :: _, _, _, h => by simp [asm] at h
  | none :: _, [], _, _, h => by simp [asm] at h
  | some _ :: _, [], _, _, h => by simp [asm] at h
def putO : List Nat → List T → Env → Env
  | i :: is, t :: ts, env => putO is ts (env.set i (some t))
  | _, _, env => env
theorem putO_len : ∀ (cs : List Nat) (ts : List T) (env : Env), (putO cs ts env).length = env.length
  | [], _, _ => by simp [putO]
  | _ :: _, [], _ => by simp [putO]
  | i :: is, t :: ts, env => by simp [putO, putO_len is ts]
theorem putO_out : ∀ (cs : List Nat) (ts : List T) (env : Env) (i : Nat), i ∉ cs → (putO cs ts env)[i]? = env[i]?
  | [], _, _, _, _ => by simp [putO]
  | _ :: _, [], _, _, _ => by simp [putO]
  | c :: cs, t :: ts, env, i, h => by
    simp only [putO]
    rw [putO_out cs ts _ i fun z => h (List.mem_cons_of_mem _ z), List.getElem?_set_ne fun z => h (by rw [z]; exact List.mem_cons_self)]
theorem putO_in : ∀ (cs : List Nat) (ts : List T) (env : Env) (i : Nat) (t : T), cs.Nodup → ts.length = cs.length → i ∈ cs → (putO cs ts env)[i]? = some (some t) → ∃ j : Nat, cs[j]? = some i ∧ ts[j]? = some t
  | [], _, _, _, _, _, _, h, _ => by simp at h
  | c :: cs, [], _, _, _, _, h, _, _ => by simp at h
  | c :: cs, u :: ts, env, i, t, nd, hl, hi, h => by
    rw [List.nodup_cons] at nd
    simp only [putO] at h
    by_cases e : i ∈ cs
    · obtain ⟨j, h1, h2⟩ := putO_in cs ts _ i t nd.2 (by simpa using hl) e h
      exact ⟨j + 1, by simpa using h1, by simpa using h2⟩
    · have e1 : i = c := by rcases List.mem_cons.mp hi with z | z; exact z; exact absurd z e
      subst e1
      rw [putO_out _ _ _ _ e] at h
      by_cases hl2 : i < env.length
      · rw [List.getElem?_set_self hl2] at h
        cases h
        exact ⟨0, rfl, rfl⟩
      · rw [List.getElem?_eq_none (by simpa using hl2)] at h
        cases h
def okK (ks : List (Option Nat)) (io cs : List Nat) : Bool := decide (cs.Nodup) && decide (io.length = cs.length) && (io.zip cs).all (fun p => decide (ks[p.1]? = some (some p.2))) && (List.range ks.length).all fun j => match ks[j]? with
  | some (some i) => decide (j ∈ io) && decide (i ∈ cs)
  | _ => true
def sCall (spec : SemF) (ks : List (Option Nat)) (cs : List Nat) (qs : SemD) : SemE := fun env Q E => qs env (fun ds env1 => match asm ks ds env1 with
  | some args => spec args (fun t outs => Q t (putO cs outs env1)) (fun r outs => E r (putO cs outs env1))
  | none => False) E
def labIn (io cs : List Nat) : Lab → Lab
  | .base => .base
  | .sl i => match (cs.zip io).lookup i with
    | some p => .sl p
    | none => .fr
  | _ => .fr
def labBack (io cs : List Nat) (n : Nat) (old : Lab) : Lab → Lab
  | .fr => old
  | .base => .base
  | .sl p => match (io.zip cs).lookup p with
    | some i => .sl i
    | none => .tm n
  | .tm _ => .tm n
theorem lookup_zip {α β : Type} [BEq α] [LawfulBEq α] : ∀ {as : List α} {bs : List β} {j : Nat} {a : α} {b : β}, as.Nodup → as[j]? = some a → bs[j]? = some b → (as.zip bs).lookup a = some b
  | [], _, _, _, _, _, h, _ => by simp at h
  | _ :: _, [], _, _, _, _, _, h => by simp at h
  | x :: as, y :: bs, 0, a, b, _, h1, h2 => by
    simp at h1 h2
    subst h1 h2
    simp
  | x :: as, y :: bs, j + 1, a, b, nd, h1, h2 => by
    rw [List.nodup_cons] at nd
    have h1' : as[j]? = some a := by simpa using h1
    have ne : (a == x) = false := by
      rw [beq_eq_false_iff_ne]
      intro e
      subst e
      exact nd.1 (List.mem_of_getElem? h1')
    rw [List.zip_cons_cons, List.lookup_cons, ne]
    exact lookup_zip nd.2 h1' (by simpa using h2)
theorem lookup_zip_none {α β : Type} [BEq α] [LawfulBEq α] : ∀ {as : List α} {bs : List β} {a : α}, a ∉ as → (as.zip bs).lookup a = none
  | [], _, _, _ => by simp
  | _ :: _, [], _, _ => by simp
  | x :: as, y :: bs, a, h => by
    have ne : (a == x) = false := by
      rw [beq_eq_false_iff_ne]
      intro e
      exact h (by rw [e]; exact List.mem_cons_self)
    rw [List.zip_cons_cons, List.lookup_cons, ne]
    exact lookup_zip_none fun z => h (List.mem_cons_of_mem _ z)
section
variable {X : Cx} {W : WX} {M : List Nat} {k : Nat} {f : Addr} {fd : FuncData} {ps : List Str} {io cs : List Nat} {spec : SemF} {ks : List (Option Nat)} {e : Expr} {es : List Expr} {qs : SemD} {x : Str} {p pos : Pos}
theorem call_run {K : PySem.W.Frag} {n0 : Nat} (hio : io.Nodup) (hk : okK ks io cs = true) (hn : ks.length = n0) {σ : L2.St} {H1 : Hp} {Qv : VK} {m : Nat} {ow1 : Ow} {env1 : Env} {Q : T → Env → Prop} {E : XQ} {vs : List V} {ds : List D} {args : List T} (s1 : StOk K H1 ow1 σ env1) (l1 : vs.length = ks.length)
    (hv : ∀ (j : Nat) (v : V) (d : D), vs[j]? = some v → ds[j]? = some d → (ks[j]? = some none → Rp K (Bs H1 ow1) v d) ∧ ∀ i, ks[j]? = some (some i) → σ[i]? = some (some v))
    (l2 : ds.length = ks.length) (ha : asm ks ds env1 = some args) (hs : spec args (fun t outs => Q t (putO cs outs env1)) (fun r outs => E r (putO cs outs env1)))
    (kk : ∀ v t H' ow' env', Stp cs m H1 ow1 H' ow' → StOk K H' ow' σ env' → Out cs env1 env' → Tq K H' ow' (.tm m) v t → Q t env' → Qv v H') (xx : Xk K W cs σ H1 m ow1 env1 E) : spQ K n0 io spec vs H1 Qv (fun cls d H' => W cls d σ H') := by
  unfold okK at hk
  simp only [Bool.and_eq_true, decide_eq_true_eq] at hk
  obtain ⟨⟨⟨nd, len⟩, hz⟩, hall⟩ := hk
  obtain ⟨a1, a2⟩ := asm_get ha
  have slot : ∀ {i p : Nat} {j : Nat}, cs[j]? = some i → io[j]? = some p → labIn io cs (.sl i) = .sl p := fun {i p j} e1 e2 => by
    simp only [labIn]
    rw [lookup_zip nd e1 e2]
  have back : ∀ {i p j : Nat} {old : Lab}, cs[j]? = some i → io[j]? = some p → labBack io cs m old (.sl p) = .sl i := fun {i p j old} e1 e2 => by
    simp only [labBack]
    rw [lookup_zip hio e2 e1]
  have kz : ∀ {j i p : Nat}, cs[j]? = some i → io[j]? = some p → ks[p]? = some (some i) := fun {j i p} e1 e2 => by
    have hm : (p, i) ∈ io.zip cs := List.mem_of_getElem? (i := j) (by rw [List.getElem?_zip_eq_some]; exact ⟨e2, e1⟩)
    exact of_decide_eq_true (List.all_eq_true.mp hz _ hm)
  have bsIn : Same (Bs H1 ow1) (Bs H1 fun a => labIn io cs (ow1 a)) := bs_lab fun a e1 => by
    show labIn io cs (ow1 a) = .base
    rw [e1]; rfl
  -- what is behind the call
  have after : ∀ {H2 : Hp} {owc : Ow}, Fs H1 (fun a => labIn io cs (ow1 a)) H2 owc → Stp cs m H1 ow1 H2 (fun a => labBack io cs m (ow1 a) (owc a)) ∧ Same (Bs H2 owc) (Bs H2 fun a => labBack io cs m (ow1 a) (owc a)) := fun {H2 owc} fs => by
    refine ⟨⟨fun a o e q => ?_, fs.tp⟩, bs_lab fun a e1 => ?_⟩
    · have key : (labIn io cs (ow1 a) = .fr ∨ labIn io cs (ow1 a) = .base) ∧ labBack io cs m (ow1 a) (labIn io cs (ow1 a)) = ow1 a := by
        cases eo : ow1 a with
        | fr => exact ⟨.inl rfl, rfl⟩
        | base => exact ⟨.inr rfl, rfl⟩
        | tm k => exact ⟨.inl rfl, rfl⟩
        | sl i =>
          rw [eo] at q
          have hi : i ∉ cs := q
          have : labIn io cs (.sl i) = .fr := by simp only [labIn]; rw [lookup_zip_none hi]
          rw [this]
          exact ⟨.inl rfl, rfl⟩
      obtain ⟨e1, e2⟩ := fs a o e key.1
      refine ⟨e1, ?_⟩
      show labBack io cs m (ow1 a) (owc a) = ow1 a
      rw [e2]
      exact key.2
    · show labBack io cs m (ow1 a) (owc a) = .base
      rw [e1]; rfl
  have state : ∀ {H2 : Hp} {owc : Ow} {outs : List T}, Fs H1 (fun a => labIn io cs (ow1 a)) H2 owc → outs.length = io.length → (∀ (j i : Nat) (u : T), io[j]? = some i → outs[j]? = some u → ∃ v, vs[i]? = some v ∧ Tq K H2 owc (.sl i) v u) →
      StOk K H2 (fun a => labBack io cs m (ow1 a) (owc a)) σ (putO cs outs env1) ∧ Out cs env1 (putO cs outs env1) := fun {H2 owc outs} fs lo ho => by
    obtain ⟨y, bsB⟩ := after fs
    have out : Out cs env1 (putO cs outs env1) := ⟨putO_len _ _ _, fun i hi => putO_out _ _ _ _ hi⟩
    refine ⟨s1.stp y out fun i t hi e => ?_, out⟩
    obtain ⟨j, ej, et⟩ := putO_in cs outs env1 i t nd (lo.trans len) hi e
    have hj : j < io.length := by have := (List.getElem?_eq_some_iff.mp et).1; omega
    have ep : io[j]? = some io[j] := by simp [hj]
    obtain ⟨v, ev, r⟩ := ho j io[j] t ep et
    have kp := kz ej ep
    have hp : io[j] < ds.length := by have := (List.getElem?_eq_some_iff.mp ev).1; omega
    refine ⟨v, (hv io[j] v ds[io[j]] ev (by simp [hp])).2 i kp, Car.tq ⟨bsB, fun a o _ eo => ⟨by assumption, ?_⟩⟩ r⟩
    show labBack io cs m (ow1 a) (owc a) = .sl i
    rw [eo]
    exact back ej ep
  refine ⟨by omega, fun a => labIn io cs (ow1 a), args, _, _, by omega, fun j t et => ?_, hs, fun v t H2 owc outs fs r lo ho z => ?_, fun r d H2 owc outs fs rz lo ho z => ?_⟩
  · have hj : j < vs.length := by have := (List.getElem?_eq_some_iff.mp et).1; omega
    have ev : vs[j]? = some vs[j] := by simp [hj]
    refine ⟨vs[j], ev, ?_⟩
    have hjd : j < ds.length := by omega
    have ed : ds[j]? = some ds[j] := by simp [hjd]
    rcases a2 j t et with ⟨d, ek, ed', rfl⟩ | ⟨i, ek, ee⟩
    · exact Tq.fz_.mpr (((hv j _ d ev ed').1 ek).mono bsIn)
    · have e1 := (hv j _ _ ev ed).2 i ek
      obtain ⟨w, e2, r⟩ := s1.at_ i t ee
      rw [e1] at e2
      cases e2
      have hall' := List.all_eq_true.mp hall j (List.mem_range.mpr (by omega))
      rw [ek] at hall'
      simp only [Bool.and_eq_true, decide_eq_true_eq] at hall'
      -- the place of i among cs is that of j among io
      obtain ⟨c, hc⟩ := List.getElem?_of_mem hall'.1
      have hcs : c < cs.length := by have := (List.getElem?_eq_some_iff.mp hc).1; omega
      have ec : cs[c]? = some cs[c] := by simp [hcs]
      have kp := kz ec hc
      rw [ek] at kp
      have ei : i = cs[c] := Option.some.inj (Option.some.inj kp)
      exact Car.tq ⟨bsIn, fun a o h eo => ⟨h, by
        show labIn io cs (ow1 a) = .sl j
        rw [eo, ei]
        exact slot ec hc⟩⟩ r
  · obtain ⟨y, bsB⟩ := after fs
    obtain ⟨s2, o2⟩ := state fs lo ho
    exact kk v t H2 _ _ y s2 o2 (Car.tq ⟨bsB, fun a o h eo => ⟨h, by
      show labBack io cs m (ow1 a) (owc a) = .tm m
      rw [eo]
      rfl⟩⟩ r) z
  · obtain ⟨y, bsB⟩ := after fs
    obtain ⟨s2, o2⟩ := state fs lo ho
    refine xx r d H2 _ _ y s2 o2 ?_ z
    cases d with
    | none => exact rz
    | some d =>
      obtain ⟨ws, e1, e2, e3⟩ := rz
      exact ⟨ws, bsB _ _ e1, e2, e3.mono bsB⟩
theorem q_call (F : QFn X.prog X.w X.K X.mg X.base k f fd ps io spec) (tk : L2.Takes X W) (hr : Room k X.A) (hG : X.A.guards = some []) (hg : Gl X x) (hm : X.mg x = some (.ref f)) (hk : PySem.W.keepIn X.K (.ref f) = true) (hb : Binds X.K fd ps [])
    (ha : QA X W M ks (e :: es) qs) (cs : List Nat) (hio : io.Nodup := by decide) (hK : okK ks io cs = true := by decide) (hn : ks.length = ps.length := by rfl) (hdb : (x == ("__debug__" : Str)) = false := by decide) (he : starEach (e :: es) X.env = (false, eval e X.env) :: starEach es X.env := by rfl)
    (hpl : (backTo pos (starEach es X.env)).any (·.1) = false := by rfl) : QE X W (M ++ cs) (.Call (.Name x p) (e :: es) [] pos) (sCall spec ks cs qs) :=
  ⟨PE_imp (pe_callG F hr hG hg hm hk hb tk ha.run hdb he hpl) fun σ H Qv ⟨n, ow, env, Q, E, st, hq, kk, xx⟩ => ⟨n, ow, env, _, E, st, hq, fun vs ds H1 ow1 env1 y1 s1 o1 l1 l2 hv z => by
    split at z
    · rename_i args ea
      exact call_run hio hK hn s1 l1 hv l2 ea z (fun v t H2 ow2 env2 y2 s2 o2 r2 z2 => kk v t H2 ow2 env2 (y1.trans y2 subl subr (Nat.le_refl _) (Nat.le_refl _)) s2 (o1.trans o2 subl subr) r2 z2) (xx.step y1 o1 subl subr (Nat.le_refl _) (Nat.le_refl _))
    · exact z.elim, fun r d H' ow' env' y s' o => xx r d H' ow' env' (y.mono subl (Nat.le_refl _)) s' (o.mono subl)⟩⟩
end
end QV

set_option Elab.async false
set_option linter.all false
set_option maxRecDepth 100000
set_option maxHeartbeats 2000000
namespace QV
open PySem L2

def wipeE (env : Env) : List Nat → Env
  | [] => env
  | v :: vs => (wipeE env vs).set v none
def rstE (e0 : Env) : List Nat → Env → Env
  | [], e => e
  | v :: vs, e => (rstE e0 vs e).set v ((e0[v]?).getD none)
theorem wipeE_len (env : Env) : ∀ vs, (wipeE env vs).length = env.length
  | [] => rfl
  | v :: vs => by unfold wipeE; rw [List.length_set, wipeE_len env vs]
theorem rstE_len (e0 : Env) : ∀ vs (e : Env), (rstE e0 vs e).length = e.length
  | [], _ => rfl
  | v :: vs, e => by unfold rstE; rw [List.length_set, rstE_len e0 vs e]
theorem wipeE_some {env : Env} {i : Nat} {t : T} : ∀ {vs : List Nat}, (wipeE env vs)[i]? = some (some t) → env[i]? = some (some t) ∧ i ∉ vs
  | [], h => ⟨h, by simp⟩
  | v :: vs, h => by
    unfold wipeE at h
    by_cases hi : v = i
    · subst hi
      by_cases hv : v < (wipeE env vs).length
      · rw [List.getElem?_set_self hv] at h; cases h
      · rw [List.getElem?_eq_none (by simpa using hv)] at h; cases h
    · rw [List.getElem?_set_ne hi] at h
      obtain ⟨h1, h2⟩ := wipeE_some h
      exact ⟨h1, by simp only [List.mem_cons, not_or]; exact ⟨fun e => hi e.symm, h2⟩⟩
theorem rstE_out {e0 : Env} {i : Nat} : ∀ {vs : List Nat} {e : Env}, i ∉ vs → (rstE e0 vs e)[i]? = e[i]?
  | [], _, _ => rfl
  | v :: vs, e, h => by
    unfold rstE
    rw [List.getElem?_set_ne fun z => h (by rw [z]; exact List.mem_cons_self)]
    exact rstE_out fun z => h (List.mem_cons_of_mem _ z)
theorem rstE_in {e0 : Env} {i : Nat} {t : T} : ∀ {vs : List Nat} {e : Env}, i ∈ vs → (rstE e0 vs e)[i]? = some (some t) → e0[i]? = some (some t)
  | [], _, h, _ => by simp at h
  | v :: vs, e, hi, h => by
    unfold rstE at h
    by_cases hv : v = i
    · subst hv
      by_cases hl : v < (rstE e0 vs e).length
      · rw [List.getElem?_set_self hl] at h
        cases e1 : e0[v]? with
        | none => rw [e1] at h; cases h
        | some u => rw [e1] at h; exact h
      · rw [List.getElem?_eq_none (by simpa using hl)] at h; cases h
    · rw [List.getElem?_set_ne hv] at h
      exact rstE_in ((List.mem_cons.mp hi).resolve_left fun z => hv z.symm) h
theorem wipeE_out {env : Env} {i : Nat} : ∀ {vs : List Nat}, i ∉ vs → (wipeE env vs)[i]? = env[i]?
  | [], _ => rfl
  | v :: vs, h => by
    unfold wipeE
    rw [List.getElem?_set_ne fun z => h (by rw [z]; exact List.mem_cons_self)]
    exact wipeE_out fun z => h (List.mem_cons_of_mem _ z)
theorem wipe_in {σ : L2.St} {i : Nat} : ∀ {vs : List Nat}, i ∈ vs → i < σ.length → (wipe σ vs)[i]? = some none
  | [], h, _ => by simp at h
  | v :: vs, h, hl => by
    unfold wipe
    by_cases hv : v = i
    · subst hv
      exact List.getElem?_set_self (by rw [wipe_length]; exact hl)
    · rw [List.getElem?_set_ne hv]
      exact wipe_in ((List.mem_cons.mp h).resolve_left fun z => hv z.symm) hl
theorem wipe_tch {SS vs : List Nat} {σ σ2 : L2.St} (h : Tch SS (wipe σ vs) σ2) (hs : ∀ i ∈ SS, i ∈ vs) : wipe σ2 vs = wipe σ vs := by
  apply List.ext_getElem?
  intro i
  have l : σ2.length = σ.length := h.len.trans (wipe_length σ vs)
  by_cases hi : i ∈ vs
  · by_cases hl : i < σ.length
    · rw [wipe_in hi hl, wipe_in hi (by omega)]
    · rw [List.getElem?_eq_none (by rw [wipe_length]; omega), List.getElem?_eq_none (by rw [wipe_length]; omega)]
  · rw [wipe_out hi, h.eq i fun z => hi (hs i z)]
section
variable {K : PySem.W.Frag} {H H' : Hp} {ow ow' : Ow} {σ σ2 : L2.St} {env env' : Env} {vs SS : List Nat}
theorem StOk.wipe (s : StOk K H ow σ env) : StOk K H ow (L2.wipe σ vs) (wipeE env vs) := ⟨by rw [wipeE_len, wipe_length]; exact s.len, fun i t e => by
  obtain ⟨e1, hi⟩ := wipeE_some e
  obtain ⟨v, e2, r⟩ := s.at_ i t e1
  exact ⟨v, by rw [wipe_out hi]; exact e2, r⟩⟩
theorem StOk.rst (s : StOk K H ow σ env) (s2 : StOk K H' ow' σ2 env') (tc : Tch SS (L2.wipe σ vs) σ2) (hs : ∀ i ∈ SS, i ∈ vs) (car : ∀ i ∈ vs, Car H H' ow ow' (.sl i) (.sl i)) : StOk K H' ow' σ (rstE env vs env') := ⟨by rw [rstE_len, s2.len, tc.len, wipe_length], fun i t e => by
  by_cases hi : i ∈ vs
  · obtain ⟨v, e1, r⟩ := s.at_ i t (rstE_in hi e)
    exact ⟨v, e1, (car i hi).tq r⟩
  · rw [rstE_out hi] at e
    obtain ⟨v, e1, r⟩ := s2.at_ i t e
    rw [tc.eq i fun z => hi (hs i z), wipe_out hi] at e1
    exact ⟨v, e1, r⟩⟩
end
abbrev noX : XQ := fun _ _ => False
abbrev W0 : WX := fun _ _ _ _ => False
theorem xk0 {K : PySem.W.Frag} {M : List Nat} {σ : L2.St} {H : Hp} {n : Nat} {ow : Ow} {env : Env} {W : WX} : Xk K W M σ H n ow env noX := fun _ _ _ _ _ _ _ _ _ z => z.elim
structure QTs (X : Cx) (W : WX) (M : List Nat) (ifs : List Expr) (q : SemT) : Prop where
  run : PTs X ifs (tT X.K W M q)
def sYes : SemT := fun env Q _ => Q true env
theorem PTs_imp {X : Cx} {e : List Expr} {t t' : TT} (h : PTs X e t) (f : ∀ σ H Q, t' σ H Q → t σ H Q) : PTs X e t' := ⟨fun pins s σ H Q I q => h.run pins s σ H Q I (f _ _ _ q)⟩
theorem ts_nil {X : Cx} {W : WX} : QTs X W [] [] sYes := ⟨PTs_imp pts_nil fun σ H Qv ⟨n, ow, env, Q, E, s, hq, k, x⟩ => k true H ow env Stp.refl s Out.refl hq⟩
theorem ts_one {X : Cx} {W : WX} {M : List Nat} {e : Expr} {q : SemT} (h : QT X W M e q) : QTs X W M [e] q := ⟨pts_one h.run⟩
inductive LcG (g : SemG) (t : SemT) (q : SemE) (vs : List Nat) (Q : T → Env → Prop) (ds : List D) (env1 : Env) : Prop
  | mk (h : ∃ I : Nat → List D → Env → Prop, I 0 [] env1 ∧
  (∀ j d acc env', ds[j]? = some d → I j acc env' → g d (wipeE env' vs) fun env2 => t env2 (fun b env3 => (b = true → q env3 (fun w env4 => match w with
    | .fz e => I (j + 1) (acc ++ [e]) (rstE env' vs env4)
    | _ => False) noX) ∧ (b = false → I (j + 1) acc (rstE env' vs env3))) noX) ∧ ∀ acc env', I ds.length acc env' → Q (.ow .lst acc) env')
  | no (h : False)
theorem LcG.ex {g : SemG} {t : SemT} {q : SemE} {vs : List Nat} {Q : T → Env → Prop} {ds : List D} {env1 : Env} : LcG g t q vs Q ds env1 → ∃ I : Nat → List D → Env → Prop, I 0 [] env1 ∧
  (∀ j d acc env', ds[j]? = some d → I j acc env' → g d (wipeE env' vs) fun env2 => t env2 (fun b env3 => (b = true → q env3 (fun w env4 => match w with
    | .fz e => I (j + 1) (acc ++ [e]) (rstE env' vs env4)
    | _ => False) noX) ∧ (b = false → I (j + 1) acc (rstE env' vs env3))) noX) ∧ ∀ acc env', I ds.length acc env' → Q (.ow .lst acc) env'
  | .mk h => h
  | .no h => h.elim
def sLc (qi : SemI) (g : SemG) (t : SemT) (q : SemE) (vs : List Nat) : SemE := fun env Q E => qi env (fun ds env1 => LcG g t q vs Q ds env1) E
theorem LcG.fr {g : SemG} {t : SemT} {q : SemE} {vs : List Nat} {Q : T → Env → Prop} {ds : List D} {env : Env} (ms : List Nat) (I : Nat → List D → List (Option T) → Prop) (h0 : ∃ us, env = putE env ms us ∧ I 0 [] us)
    (hs : ∀ j d acc us, ds[j]? = some d → I j acc us → g d (wipeE (putE env ms us) vs) fun env2 => t env2 (fun b env3 => (b = true → q env3 (fun w env4 => match w with
    | .fz e => ∃ us', rstE (putE env ms us) vs env4 = putE env ms us' ∧ I (j + 1) (acc ++ [e]) us'
    | _ => False) noX) ∧ (b = false → ∃ us', rstE (putE env ms us) vs env3 = putE env ms us' ∧ I (j + 1) acc us')) noX) (he : ∀ acc us, I ds.length acc us → Q (.ow .lst acc) (putE env ms us)) : LcG g t q vs Q ds env :=
  .mk ⟨fun j acc e => ∃ us, e = putE env ms us ∧ I j acc us, h0, fun j d acc env' hd ⟨us, e, i⟩ => by subst e; exact hs j d acc us hd i, fun acc env' ⟨us, e, i⟩ => by subst e; exact he acc us i⟩
theorem LcG.flat {g : SemG} {t : SemT} {q : SemE} {vs : List Nat} {Q : T → Env → Prop} {ds : List D} {env : Env} (f : D → Option D)
    (hs : ∀ j d, ds[j]? = some d → g d (wipeE env vs) fun env2 => t env2 (fun b env3 => (b = true → q env3 (fun w env4 => match w with
    | .fz e => (ds.take j).filterMap f ++ [e] = (ds.take (j + 1)).filterMap f ∧ rstE env vs env4 = env
    | _ => False) noX) ∧ (b = false → (ds.take j).filterMap f = (ds.take (j + 1)).filterMap f ∧ rstE env vs env3 = env)) noX) (he : Q (.ow .lst (ds.filterMap f)) env) : LcG g t q vs Q ds env :=
  .mk ⟨fun j acc e => acc = (ds.take j).filterMap f ∧ e = env, ⟨rfl, rfl⟩, fun j d acc env' hd ⟨ha, he⟩ => by subst ha he; exact hs j d hd, fun acc env' ⟨ha, he'⟩ => by subst ha he'; rwa [List.take_of_length_le (Nat.le_refl _)]⟩
theorem nf_map {a : T} {l : List T} : List.map some (a :: l) = some a :: List.map some l := rfl
theorem nf_map0 : List.map some ([] : List T) = [] := rfl
theorem nf_app {a : Option T} {l m : List (Option T)} : (a :: l) ++ m = a :: (l ++ m) := rfl
theorem nf_app0 {m : List (Option T)} : [] ++ m = m := rfl
theorem nf_set0 {a b : Option T} {l : List (Option T)} : (a :: l).set 0 b = b :: l := rfl
theorem nf_setS {a b : Option T} {l : List (Option T)} {n : Nat} : (a :: l).set (n + 1) b = a :: l.set n b := rfl
theorem putE_nil {env : Env} : putE env [] [] = env := rfl
theorem putE_cons {env : Env} {i : Nat} {is : List Nat} {v : Option T} {vs : List (Option T)} : putE env (i :: is) (v :: vs) = putE (env.set i v) is vs := rfl
theorem putO_nil {env : Env} : putO [] [] env = env := rfl
theorem putO_cons {env : Env} {i : Nat} {is : List Nat} {v : T} {vs : List T} : putO (i :: is) (v :: vs) env = putO is vs (env.set i (some v)) := rfl
theorem over_yes {α : Type} {l : List α} {p : α → Bool} {f : α → D} {j : Nat} {a : α} (h : l[j]? = some a) (hp : p a = true) : ((l.take j).filter p).map f ++ [f a] = ((l.take (j + 1)).filter p).map f := by
  rw [List.take_add_one, h, List.filter_append, List.map_append]; simp [hp]
theorem over_no {α : Type} {l : List α} {p : α → Bool} {f : α → D} {j : Nat} {a : α} (h : l[j]? = some a) (hp : p a = false) : ((l.take j).filter p).map f = ((l.take (j + 1)).filter p).map f := by
  rw [List.take_add_one, h, List.filter_append, List.map_append]; simp [hp]
theorem map_at {α : Type} {l : List α} {g0 : α → D} {j : Nat} {d : D} (h : (l.map g0)[j]? = some d) : ∃ a, l[j]? = some a ∧ d = g0 a := by
  rw [List.getElem?_map] at h
  cases e : l[j]? with
  | none => rw [e] at h; cases h
  | some a => rw [e] at h; cases h; exact ⟨a, rfl, rfl⟩
theorem LcG.over {g : SemG} {t : SemT} {q : SemE} {vs : List Nat} {Q : T → Env → Prop} {ds : List D} {env : Env} {α : Type} (l : List α) (g0 : α → D) (hds : ds = l.map g0) (p : α → Bool) (f : α → D)
    (hs : ∀ j a, l[j]? = some a → g (g0 a) (wipeE env vs) fun env2 => t env2 (fun b env3 => (b = true → q env3 (fun w env4 => match w with
    | .fz e => ((l.take j).filter p).map f ++ [e] = ((l.take (j + 1)).filter p).map f ∧ rstE env vs env4 = env
    | _ => False) noX) ∧ (b = false → ((l.take j).filter p).map f = ((l.take (j + 1)).filter p).map f ∧ rstE env vs env3 = env)) noX) (he : Q (.ow .lst ((l.filter p).map f)) env) : LcG g t q vs Q ds env :=
  .mk ⟨fun j acc e => acc = ((l.take j).filter p).map f ∧ e = env, ⟨rfl, rfl⟩, fun j d acc env' hd ⟨ha, he⟩ => by
    subst ha he hds
    obtain ⟨a, h1, rfl⟩ := map_at hd
    exact hs j a h1, fun acc env' ⟨ha, he'⟩ => by
    subst ha he' hds
    rwa [List.length_map, List.take_of_length_le (Nat.le_refl _)]⟩
theorem all_one {α : Type} {l : List α} {f : α → D} {j : Nat} {a : α} (h : l[j]? = some a) : (l.take j).map f ++ [f a] = (l.take (j + 1)).map f := by
  rw [List.take_add_one, h, List.map_append]; rfl
theorem LcG.each {g : SemG} {t : SemT} {q : SemE} {vs : List Nat} {Q : T → Env → Prop} {ds : List D} {env : Env} {α : Type} (l : List α) (g0 : α → D) (hds : ds = l.map g0) (f : α → D)
    (hs : ∀ j a, l[j]? = some a → g (g0 a) (wipeE env vs) fun env2 => t env2 (fun b env3 => (b = true → q env3 (fun w env4 => match w with
    | .fz e => (l.take j).map f ++ [e] = (l.take (j + 1)).map f ∧ rstE env vs env4 = env
    | _ => False) noX) ∧ (b = false → (l.take j).map f = (l.take (j + 1)).map f ∧ rstE env vs env3 = env)) noX) (he : Q (.ow .lst (l.map f)) env) : LcG g t q vs Q ds env :=
  .mk ⟨fun j acc e => acc = (l.take j).map f ∧ e = env, ⟨rfl, rfl⟩, fun j d acc env' hd ⟨ha, he⟩ => by
    subst ha he hds
    obtain ⟨a, h1, rfl⟩ := map_at hd
    exact hs j a h1, fun acc env' ⟨ha, he'⟩ => by
    subst ha he' hds
    rwa [List.length_map, List.take_of_length_le (Nat.le_refl _)]⟩
theorem ForG.over {g : SemG} {body : SemS} {D : EndsQ} {ds : List QV.D} {env : Env} {α : Type} (l : List α) (g0 : α → QV.D) (hds : ds = l.map g0) (ms : List Nat) (I : Nat → List (Option T) → Prop) (h0 : ∃ vs, env = putE env ms vs ∧ I 0 vs)
    (hs : ∀ j a vs, l[j]? = some a → I j vs → g (g0 a) (putE env ms vs) fun env2 => body { D with nx := fun e => ∃ us, e = putE env ms us ∧ I (j + 1) us, ct := fun e => ∃ us, e = putE env ms us ∧ I (j + 1) us, bk := D.nx } env2) (he : ∀ vs, I l.length vs → D.nx (putE env ms vs)) : ForG g body D ds env :=
  .fr ms I h0 (fun j d vs hd i => by
    subst hds
    obtain ⟨a, h1, rfl⟩ := map_at hd
    exact hs j a vs h1 i) fun vs i => he vs (by subst hds; rwa [List.length_map] at i)
theorem ForG.rng {g : SemG} {body : SemS} {D : EndsQ} {lo : Int} {n : Nat} {env : Env} (ms : List Nat) (I : Nat → List (Option T) → Prop) (h0 : ∃ vs, env = putE env ms vs ∧ I 0 vs)
    (hs : ∀ j vs, j < n → I j vs → g (.int (lo + (j : Nat))) (putE env ms vs) fun env2 => body { D with nx := fun e => ∃ us, e = putE env ms us ∧ I (j + 1) us, ct := fun e => ∃ us, e = putE env ms us ∧ I (j + 1) us, bk := D.nx } env2) (he : ∀ vs, I n vs → D.nx (putE env ms vs)) : ForG g body D (rngD lo n) env :=
  .fr ms I h0 (fun j d vs hd i => by
    obtain ⟨h1, rfl⟩ := rngD_get hd
    exact hs j vs h1 i) fun vs i => he vs (by rwa [rngD_len] at i)
theorem rngD_map {lo : Int} {n : Nat} : rngD lo n = (List.range n).map fun i => D.int (lo + (i : Nat)) := rfl
theorem mem3 {Mi Mt Me : List Nat} : (∀ i ∈ Mi, i ∈ Mi ++ (Mt ++ Me)) ∧ (∀ i ∈ Mt, i ∈ Mi ++ (Mt ++ Me)) ∧ ∀ i ∈ Me, i ∈ Mi ++ (Mt ++ Me) := ⟨subl, fun i h => subr i (subl i h), fun i h => subr i (subr i h)⟩
theorem lc_run {K : PySem.W.Frag} {W : WX} {Mi Mt Me SS vs : List Nat} {qi : SemI} {g : SemG} {t : SemT} {q : SemE} (hs : ∀ i ∈ SS, i ∈ vs) (hv : ∀ i ∈ vs, i ∉ Mt ++ Me) {σ : L2.St} {H : Hp} {Qv : VK} (h : tQ K W (Mi ++ (Mt ++ Me)) (sLc qi g t q vs) σ H Qv) :
    tLc (tI K W Mi qi) (tG K SS g) (tT K W0 Mt t) (tQ K W0 Me q) vs σ H Qv := by
  obtain ⟨n, ow, env, Q, E, s, hq, k, x⟩ := h
  refine ⟨n, ow, env, _, E, s, hq, fun J ds H1 ow1 env1 y1 s1 o1 J1 hI => ?_, fun r d H' ow' env' y s' o => x r d H' ow' env' (y.mono subl (Nat.le_refl _)) s' (o.mono subl)⟩
  obtain ⟨I, i0, it, ie⟩ := hI.ex
  intro D hD
  have key : ∀ {H' : Hp} {ow' : Ow}, Stp (Mi ++ (Mt ++ Me)) n H1 ow1 H' ow' → Stp (Mi ++ (Mt ++ Me)) n H ow H' ow' := fun y => y1.trans y subl (fun _ h => h) (Nat.le_refl _) (Nat.le_refl _)
  refine ⟨fun j m H' => m = ds.length - j ∧ j ≤ ds.length ∧ ∃ ow' env' acc us, Stp (Mi ++ (Mt ++ Me)) n H1 ow1 H' ow' ∧ StOk K H' ow' σ env' ∧ Out (Mi ++ (Mt ++ Me)) env1 env' ∧ H' D = some (.lst us) ∧ ow' D = .tm n ∧ Rps K (Bs H' ow') us acc ∧ us.length ≤ j ∧ I j acc env',
    ⟨ds.length, by simp, Nat.zero_le _, Ow.put ow1 D (.tm n), env1, [], [], Stp.new hD, s1.stp0 (n := 0) (Stp.new hD), Out.refl, upd_same, put_same, .nil, Nat.le_refl _, i0⟩, ?_⟩
  rintro j m H' ⟨rfl, hj, ow', env', acc, us, y', s', o', hDl, hDo, hr, hl, ij⟩
  by_cases hlt : j < ds.length
  · have hd : ds[j]? = some ds[j] := by simp [hlt]
    refine .inr ⟨J1.go j _ H' ow' y'.fs hd, fun H5 => ∃ ow5 env5 acc5 us5, Stp (Mi ++ (Mt ++ Me)) n H1 ow1 H5 ow5 ∧ StOk K H5 ow5 σ env5 ∧ Out (Mi ++ (Mt ++ Me)) env1 env5 ∧ H5 D = some (.lst us5) ∧ ow5 D = .tm n ∧ Rps K (Bs H5 ow5) us5 acc5 ∧ us5.length ≤ j + 1 ∧ I (j + 1) acc5 env5,
      fun H5 ⟨ow5, env5, acc5, us5, q5⟩ => ⟨ds.length - (j + 1), by omega, rfl, hlt, ow5, env5, acc5, us5, q5⟩, fun xv H2 yl => ?_⟩
    obtain ⟨ow2, ex, rx⟩ := J1.yld j _ H' ow' xv H2 y'.fs hd yl
    have y2 : Stp (Mi ++ (Mt ++ Me)) n H' ow' H2 ow2 := ex.stp
    have s2 : StOk K H2 ow2 σ env' := s'.stp0 (n := 0) ex.stp
    refine ⟨ow2, wipeE env' vs, _, _, s2.wipe, rx, it j _ acc env' hd ij, fun σ3 env3 tc oT s3 z3 => ?_⟩
    refine ⟨wipe_tch tc hs, n + 1, ow2, env3, _, noX, s3, z3, fun b H3 ow3 env4 y3 s4 o4 z4 => ?_, xk0⟩
    have hD2 := (ex D _ hDl)
    have hD3 := y3 D _ hD2.1 (by rw [hD2.2, hDo]; exact Nat.lt_succ_self n)
    have hDo3 : ow3 D = .tm n := by rw [hD3.2, hD2.2, hDo]
    have same3 : Same (Bs H' ow') (Bs H3 ow3) := fun a o e => y3.bs a o (y2.bs a o e)
    have y23 : Stp (Mi ++ (Mt ++ Me)) n H' ow' H3 ow3 := y2.trans y3 (fun _ h => h) mem3.2.1 (Nat.le_refl _) (Nat.le_succ _)
    have outs : ∀ {e5 : Env} {H5 : Hp} {ow5 : Ow}, Out (Mt ++ Me) env3 e5 → StOk K H5 ow5 σ3 e5 → Out (Mi ++ (Mt ++ Me)) env1 (rstE env' vs e5) := fun {e5 H5 ow5} oo ss => by
      refine ⟨?_, fun i hi => ?_⟩
      · rw [rstE_len, ss.len, tc.len, wipe_length, ← s'.len, o'.len]
      · rw [← o'.eq i hi]
        by_cases hiv : i ∈ vs
        · by_cases hil : i < env'.length
          · have : ∀ {vs : List Nat}, i ∈ vs → (rstE env' vs e5)[i]? = some ((env'[i]?).getD none) := fun {vs} hm => by
              induction vs with
              | nil => simp at hm
              | cons v vs ih =>
                unfold rstE
                by_cases hv2 : v = i
                · subst hv2
                  exact List.getElem?_set_self (by rw [rstE_len, ss.len, tc.len, wipe_length, ← s'.len]; exact hil)
                · rw [List.getElem?_set_ne hv2]
                  exact ih ((List.mem_cons.mp hm).resolve_left fun z => hv2 z.symm)
            rw [this hiv]
            have e : env'[i]? = some env'[i] := by simp [hil]
            rw [e]
            rfl
          · rw [List.getElem?_eq_none (by rw [rstE_len, ss.len, tc.len, wipe_length, ← s'.len]; omega), List.getElem?_eq_none (by omega)]
        · rw [rstE_out hiv, oo.eq i fun z => hi (subr i z)]
          rw [oT.eq i fun z => hiv (hs i z)]
          exact wipeE_out hiv
    have carV : ∀ {H5 : Hp} {ow5 : Ow}, Stp (Mt ++ Me) (n + 1) H2 ow2 H5 ow5 → ∀ i ∈ vs, Car H2 H5 ow2 ow5 (.sl i) (.sl i) := fun {H5 ow5} yy i hi => yy.car (l := .sl i) (hv i hi)
    cases b with
    | false =>
      refine iteF ?_
      have y3' : Stp (Mt ++ Me) (n + 1) H2 ow2 H3 ow3 := y3.mono subl (Nat.le_refl _)
      exact ⟨ow3, _, acc, us, y'.trans y23 (fun _ h => h) (fun _ h => h) (Nat.le_refl _) (Nat.le_refl _), s2.rst s4 tc hs (carV y3'), outs (o4.mono subl) s4, hD3.1, hDo3, hr.mono same3, Nat.le_succ_of_le hl, z4.2 rfl⟩
    | true =>
      refine iteT ?_
      refine ⟨n + 1, ow3, env4, _, noX, s4, z4.1 rfl, fun v w H4 ow4 env5 y4 s5 o5 r4 z5 => ?_, xk0⟩
      split at z5
      · rename_i e
        have rv := Tq.fz_.mp r4
        have hD4 := y4 D _ hD3.1 (by rw [hDo3]; exact Nat.lt_succ_self n)
        have hDo4 : ow4 D = .tm n := by rw [hD4.2, hDo3]
        have same4 : Same (Bs H' ow') (Bs H4 ow4) := fun a o e => y4.bs a o (same3 a o e)
        have yu : Stp (Mt ++ Me) n H4 ow4 (upd H4 D (.lst (us ++ [v]))) ow4 := ⟨fun a o ea pa => by
          have ne : a ≠ D := fun z => by
            rw [z, hDo4] at pa
            exact absurd pa (Nat.lt_irrefl n)
          exact ⟨by rw [upd_ne ne]; exact ea, rfl⟩, fun a ws ea => by
          have ne : a ≠ D := fun z => by rw [z, hD4.1] at ea; cases ea
          rw [upd_ne ne]; exact ea⟩
        have y34 : Stp (Mt ++ Me) (n + 1) H2 ow2 H4 ow4 := y3.trans y4 subl subr (Nat.le_refl _) (Nat.le_refl _)
        have y25 : Stp (Mt ++ Me) n H2 ow2 (upd H4 D (.lst (us ++ [v]))) ow4 := y34.trans yu (fun _ h => h) (fun _ h => h) (Nat.le_succ _) (Nat.le_refl _)
        have s5u : StOk K (upd H4 D (.lst (us ++ [v]))) ow4 σ3 env5 := ⟨s5.len, fun i t e => by
          obtain ⟨w, e1, r⟩ := s5.at_ i t e
          refine ⟨w, e1, Car.tq ⟨yu.bs, fun a o ea eo => ?_⟩ r⟩
          have ne : a ≠ D := fun z => by
            rw [z, hDo4] at eo
            cases eo
          exact ⟨by rw [upd_ne ne]; exact ea, eo⟩⟩
        have carU : ∀ i ∈ vs, Car H2 (upd H4 D (.lst (us ++ [v]))) ow2 ow4 (.sl i) (.sl i) := fun i hi => ⟨y25.bs, fun a o ea eo => by
          obtain ⟨e1, e2⟩ := y34 a o ea (by rw [eo]; exact hv i hi)
          have ne : a ≠ D := fun z => by
            rw [z, hDo4] at e2
            rw [z] at eo
            rw [eo] at e2
            cases e2
          exact ⟨by rw [upd_ne ne]; exact e1, e2.trans eo⟩⟩
        have yall : Stp (Mi ++ (Mt ++ Me)) n H1 ow1 (upd H4 D (.lst (us ++ [v]))) ow4 := (y'.trans y2 (fun _ h => h) (fun _ h => h) (Nat.le_refl _) (Nat.le_refl _)).trans y25 (fun _ h => h) subr (Nat.le_refl _) (Nat.le_refl _)
        refine ⟨us, hD4.1, Nat.lt_of_le_of_lt hl (Nat.lt_of_lt_of_le hlt J1.sz), ow4, _, acc ++ [e], us ++ [v], yall, s2.rst s5u tc hs carU, outs (o4.trans o5 subl subr) s5, upd_same, hDo4, ?_, by rw [List.length_append]; simpa using hl, z5⟩
        exact (hr.mono fun a o e => yu.bs a o (same4 a o e)).app (.cons (rv.mono yu.bs) .nil)
      · exact z5.elim
  · have e : j = ds.length := by omega
    subst e
    exact .inl ⟨J1.stop H' ow' y'.fs, k (.ref D) (.ow .lst acc) H' ow' env' (key y') s' (o1.trans o' subl (fun _ h => h)) ⟨_, .ow (dx := D) ⟨hDl, Nat.le_trans hl J1.sz, trivial⟩ (fun b fb => by
      have eb : b = D := fb
      rw [eb]; exact hDo) hr⟩ (ie acc env' ij)⟩
end QV

set_option Elab.async false
set_option linter.all false
set_option maxRecDepth 100000
set_option maxHeartbeats 2000000
namespace QV
open PySem L2

section
variable {X : Cx} {W : WX} {Mi Mt Me M IO SS : List Nat} {elt tg iter e : Expr} {ifs : List Expr} {scope : Scope} {own : List (Str × Nat)} {pos spos py : Pos} {qi : SemI} {g : SemG} {t : SemT} {q : SemE} {y : Str} {i : Nat}
theorem q_lc (hc : X.calm = true) (hN : X.N.Nodup) (hi : QI X W Mi tg iter qi) (ok : BlkOk X.N X.env.scope scope own)
    (hg : ∀ (s : Shared) (H : Hp) (C : Addr) (cl : List (Str × Addr)) (fp : List Addr), QG (X.blk s H scope (compEnvC scope cl C X.env) fp) SS tg g) (ht : ∀ (s : Shared) (H : Hp) (C : Addr) (cl : List (Str × Addr)) (fp : List Addr), QTs (X.blk s H scope (compEnvC scope cl C X.env) fp) W0 Mt ifs t)
    (he : ∀ (s : Shared) (H : Hp) (C : Addr) (cl : List (Str × Addr)) (fp : List Addr), QE (X.blk s H scope (compEnvC scope cl C X.env) fp) W0 Me elt q) (hs : ∀ i ∈ SS, i ∈ own.map (·.2) := by decide) (hv : ∀ i ∈ own.map (·.2), i ∉ Mt ++ Me := by decide)
    (hf : ∀ x, foldedSetIterable iter X.env x = pure x := by intro _; rfl) : QE X W (Mi ++ (Mt ++ Me)) (.ListComp elt [⟨tg, iter, ifs, 0⟩] scope pos) (sLc qi g t q (own.map (·.2))) :=
  ⟨PE_imp (pe_lc hc hN hi.run ok (fun s H C cl fp => (hg s H C cl fp).run) (fun s H C cl fp => (ht s H C cl fp).run) (fun s H C cl fp => (he s H C cl fp).run) hf) fun _ _ _ h => lc_run hs hv h⟩
theorem set_run {K : PySem.W.Frag} {te : TE} {D : Ends} {σ : L2.St} {H : Hp} (hio : i ∉ IO) (h : tS K W IO (sSet i q) D σ H) (f : ∀ Qv, tQ K W M q σ H Qv → te σ H Qv) : tAsg te (gName i) D σ H := by
  obtain ⟨ow, env, De, s, hq, k⟩ := h
  exact f _ ⟨0, ow, env, _, De.ex, s, hq, fun v t H' ow' env' y s' _ r z =>
    have ⟨y2, s2⟩ := into_slot s' r
    k.nx _ _ _ _ (y.fs.trans y2.fs) (ios_set hio) s2 z, k.ex.xk⟩
theorem fz_run {K : PySem.W.Frag} {σ : L2.St} {H : Hp} {Qv : VK} (h : tQ K W M (sFz q) σ H Qv) : tQ K W M q σ H Qv := by
  obtain ⟨n, ow, env, Q, E, s, hq, k, x⟩ := h
  exact ⟨n, ow, env, fun t env' => Q (.fz t.d) env', E, s, hq, fun v t H' ow' env' y s' o r z => by
    have y2 : Stp [] n H' ow' H' (Ow.mv ow' (.tm n) .base) := Stp.mv not_tm
    exact k v (.fz t.d) H' _ env' (y.trans y2 (fun _ h => h) nilsub (Nat.le_refl _) (Nat.le_refl _)) (s'.stp0 y2) o (Tq.fz_.mpr (r.frz (fun z => nomatch z))) z, x⟩
theorem s_setLcF (i : Nat) (hc : X.calm = true) (hN : X.N.Nodup) (hi : QI X W Mi tg iter qi) (ok : BlkOk X.N X.env.scope scope own)
    (hg : ∀ (s : Shared) (H : Hp) (C : Addr) (cl : List (Str × Addr)) (fp : List Addr), QG (X.blk s H scope (compEnvC scope cl C X.env) fp) SS tg g) (ht : ∀ (s : Shared) (H : Hp) (C : Addr) (cl : List (Str × Addr)) (fp : List Addr), QTs (X.blk s H scope (compEnvC scope cl C X.env) fp) W0 Mt ifs t)
    (he : ∀ (s : Shared) (H : Hp) (C : Addr) (cl : List (Str × Addr)) (fp : List Addr), QE (X.blk s H scope (compEnvC scope cl C X.env) fp) W0 Me elt q) (hy : X.N[i]? = some y := by rfl) (hyl : X.env.scope.names.lookup y = some .local := by rfl)
    (hsw : swapsWith (.ListComp elt [⟨tg, iter, ifs, 0⟩] scope pos) (some (.Name y py)) spos.line X.env = pure true := by exact sw_true rfl rfl rfl (by decide +kernel)) (hs : ∀ i ∈ SS, i ∈ own.map (·.2) := by decide) (hv : ∀ i ∈ own.map (·.2), i ∉ Mt ++ Me := by decide) (hio : i ∉ IO := by decide)
    (hf : ∀ x, foldedSetIterable iter X.env x = pure x := by intro _; rfl) : QS X W IO (.Assign [.Name y py] (.ListComp elt [⟨tg, iter, ifs, 0⟩] scope pos) spos) (sSet i (sFz (sLc qi g t q (own.map (·.2))))) :=
  ⟨PS_imp (ps_setLc hc hN hy hyl hsw hi.run ok (fun s H C cl fp => (hg s H C cl fp).run) (fun s H C cl fp => (ht s H C cl fp).run) (fun s H C cl fp => (he s H C cl fp).run) hf) fun _ _ _ h => set_run (M := Mi ++ (Mt ++ Me)) hio h fun _ z => lc_run hs hv (fz_run z)⟩
end

section
variable {K : PySem.W.Frag} {H : Hp} {ow : Ow} {σ : L2.St} {env : Env} {i n : Nat} {ds : List D}
theorem own_at (s : StOk K H ow σ env) (e : env[i]? = some (some (.ow .lst ds))) : ∃ a vs, σ[i]? = some (some (.ref a)) ∧ H a = some (.lst vs) ∧ vs.length ≤ sizeLine ∧ Rps K (Bs H ow) vs ds ∧ ow a = .sl i := by
  obtain ⟨v, e1, S, r⟩ := s.at_ i _ e
  cases r with
  | ow c f r => exact ⟨_, _, e1, c.at_, c.sz, r, f _ rfl⟩
theorem own_set {a : Addr} {ds' : List D} {vs' : List V} (hc : ∀ ws, H a ≠ some (.tup ws)) (s : StOk K H ow σ env) (e1 : σ[i]? = some (some (.ref a))) (eo : ow a = .sl i) (hz : vs'.length ≤ sizeLine) (r : Rps K (Bs H ow) vs' ds') :
    Stp [i] n H ow (upd H a (.lst vs')) ow ∧ StOk K (upd H a (.lst vs')) ow σ (env.set i (some (.ow .lst ds'))) ∧ Out [i] env (env.set i (some (.ow .lst ds'))) := by
  have y : ∀ {m : Nat}, Stp [i] m H ow (upd H a (.lst vs')) ow := fun {m} => ⟨fun b o e q => by
    have ne : b ≠ a := fun z => by
      rw [z, eo] at q
      exact absurd (show i ∈ [i] by simp) q
    exact ⟨by rw [upd_ne ne]; exact e, rfl⟩, fun b ws e => by
    have ne : b ≠ a := fun z => hc ws (z ▸ e)
    rw [upd_ne ne]; exact e⟩
  refine ⟨y, s.stp (y (m := 0)) Out.set1 fun j t hj e => ?_, Out.set1⟩
  have ej : j = i := by simpa using hj
  subst ej
  have hl : j < env.length := by
    rw [s.len]
    exact (List.getElem?_eq_some_iff.mp e1).1
  rw [List.getElem?_set_self hl] at e
  cases e
  exact ⟨_, e1, _, .ow (dx := a) ⟨upd_same, hz, trivial⟩ (fun b fb => by
    have eb : b = a := fb
    rw [eb]; exact eo) (r.mono (y (m := 0)).bs)⟩
end
def isLst : Option (Option T) → Bool
  | some (some (.ow .lst _)) => true
  | _ => false
def sMt (i : Nat) (qs : SemD) (g : List D → List D → (D → List D → Prop) → Prop) : SemE := fun env Q E => isLst env[i]? = true ∧ qs env (fun ds env1 => match env1[i]? with
  | some (some (.ow .lst xs)) => g xs ds fun d xs' => Q (.fz d) (env1.set i (some (.ow .lst xs')))
  | _ => False) E
def MtO (K : PySem.W.Frag) (r : V → List V → Hp → VK → Prop) (g : List D → List D → (D → List D → Prop) → Prop) : Prop := ∀ (H : Hp) (B : Hp) (a : Addr) (us vs : List V) (xs ds : List D) (Q : D → List D → Prop) (Qv : VK), H a = some (.lst us) → us.length ≤ sizeLine → Rps K B us xs → Rps K B vs ds → g xs ds Q →
  (∀ v d us' xs', Rp K B v d → us'.length ≤ sizeLine → Rps K B us' xs' → Q d xs' → Qv v (upd H a (.lst us'))) → r (.ref a) vs H Qv
section
variable {X : Cx} {W : WX} {M : List Nat} {ks : List (Option Nat)} {e : Expr} {es : List Expr} {qs : SemD} {x name : Str} {px apos cpos : Pos} {id : String} {r : V → List V → Hp → VK → Prop} {g : List D → List D → (D → List D → Prop) → Prop}
theorem ty_list {K : PySem.W.Frag} {H : Hp} {ow : Ow} {σ : L2.St} {env : Env} {i : Nat} (s : StOk K H ow σ env) (h : isLst env[i]? = true) : ∃ a, σ[i]? = some (some (.ref a)) ∧ tyV K "list" (.ref a) H := by
  cases e : env[i]? with
  | none => rw [e] at h; cases h
  | some o =>
    cases o with
    | none => rw [e] at h; cases h
    | some t =>
      rw [e] at h
      cases t with
      | fz _ => cases h
      | nd _ _ => cases h
      | ow k ds =>
        cases k <;> first | cases h | skip
        obtain ⟨a, vs, e1, c, _⟩ := own_at s e
        exact ⟨a, e1, .inl ⟨rfl, vs, .inl (.inl c)⟩⟩
theorem q_mt (i : Nat) (slot : Slot "list" name id) (hty : typeOf (.builtin id) = pure (.type "method_descriptor")) (hm : MtR X id r) (hr : MtO X.K r g) (ha : QA X W M ks (e :: es) qs) (hk : (ks.all fun x => x.isNone) = true := by rfl) (hN : X.N[i]? = some x := by rfl)
    (hv : Vis X.env.scope x := by first | exact Or.inl rfl | exact Or.inr (Or.inl rfl) | exact Or.inr (Or.inr rfl)) (hd : (x == ("__debug__" : Str)) = false := by decide) (hcd : (x == ("__classdict__" : Str)) = false := by decide)
    (hbase : attributeBase (.Name x px) name X.env (eval (.Name x px) X.env) = eval (.Name x px) X.env := by rfl)
    (hfew : ((backTo cpos (starEach (e :: es) X.env)).all (fun x => !x.1) && (backToKw cpos (keywordEach [] X.env)).all (fun x => x.1.isSome)
      && decide ((e :: es).length + ([] : List Keyword).length + (if ([] : List Keyword).isEmpty then 0 else 1) < 30)) = true := by rfl)
    (hline : (apos.endLine == cpos.line) = true := by rfl) (hs : starEach (e :: es) X.env = (false, eval e X.env) :: starEach es X.env := by rfl) (hplain : (backTo cpos (starEach es X.env)).any (·.1) = false := by rfl) :
    QE X W (M ++ [i]) (.Call (.Attribute (.Name x px) name apos) (e :: es) [] cpos) (sMt i qs g) :=
  ⟨PE_imp (pe_bm PySem.F.plainAttrs_list slot hty hm (pe_var (i := i) hN hv hd hcd) ha.run hbase hfew hline hs hplain) fun σ H Qv ⟨n, ow, env, Q, E, s, ⟨h1, hq⟩, k, xx⟩ => by
    obtain ⟨a, e1, ty⟩ := ty_list s h1
    refine ⟨.ref a, e1, ty, tA_data hk s hq (fun r d H' ow' env' y s' o => xx r d H' ow' env' (y.mono subl (Nat.le_refl _)) s' (o.mono subl)) fun vs ds H1 ow1 env1 y1 s1 o1 l1 rr z => ?_⟩
    split at z
    · rename_i xs ee
      obtain ⟨a', us, e2, c, hz, r1, eo⟩ := own_at s1 ee
      rw [e1] at e2
      cases e2
      refine hr H1 (Bs H1 ow1) a us vs xs ds _ Qv c hz r1 rr z fun v d us' xs' rv hz' r' z' => ?_
      obtain ⟨y2, s2, o2⟩ := own_set (n := n) (fun ws z => by rw [c] at z; cases z) s1 e1 eo hz' r'
      exact k v (.fz d) _ ow1 _ (y1.trans y2 subl subr (Nat.le_refl _) (Nat.le_refl _)) s2 (o1.trans o2 subl subr) (Tq.fz_.mpr (rv.mono y2.bs)) z'
    · exact z.elim⟩
end
section
variable {K : PySem.W.Frag}
def gApp (xs ds : List D) (Q : D → List D → Prop) : Prop := match ds with
  | [d] => xs.length < sizeLine ∧ Q .non (xs ++ [d])
  | _ => False
theorem m_app : MtO K rAppend gApp := by
  intro H B a us vs xs ds Q Qv c hz r rr h k
  unfold gApp at h
  split at h
  · rename_i d
    cases rr with
    | cons rv rr =>
      cases rr
      have l := r.len
      exact ⟨a, us, _, rfl, rfl, c, by omega, k _ _ _ _ .non (by rw [List.length_append]; simp; omega) (r.app (.cons rv .nil)) h.2⟩
  · exact h.elim
theorem Rps.dropLast {B : Hp} {us : List V} {xs : List D} (r : Rps K B us xs) : Rps K B us.dropLast xs.dropLast := by
  rw [List.dropLast_eq_take, List.dropLast_eq_take, r.len]
  exact r.take _
end
section
variable {X : Cx} {W : WX} {M Ma Mb IO : List Nat} {e ix : Expr} {q qi : SemE} {x : Str} {px pos tpos : Pos}
theorem q_append (i : Nat) {es : List Expr} {ks : List (Option Nat)} {qs : SemD} {apos cpos : Pos} (ha : QA X W M ks (e :: es) qs) (hk : (ks.all fun x => x.isNone) = true := by rfl) (hN : X.N[i]? = some x := by rfl)
    (hv : Vis X.env.scope x := by first | exact Or.inl rfl | exact Or.inr (Or.inl rfl) | exact Or.inr (Or.inr rfl)) (hd : (x == ("__debug__" : Str)) = false := by decide) (hcd : (x == ("__classdict__" : Str)) = false := by decide)
    (hbase : attributeBase (.Name x px) "append" X.env (eval (.Name x px) X.env) = eval (.Name x px) X.env := by rfl)
    (hfew : ((backTo cpos (starEach (e :: es) X.env)).all (fun x => !x.1) && (backToKw cpos (keywordEach [] X.env)).all (fun x => x.1.isSome)
      && decide ((e :: es).length + ([] : List Keyword).length + (if ([] : List Keyword).isEmpty then 0 else 1) < 30)) = true := by rfl)
    (hline : (apos.endLine == cpos.line) = true := by rfl) (hs : starEach (e :: es) X.env = (false, eval e X.env) :: starEach es X.env := by rfl) (hplain : (backTo cpos (starEach es X.env)).any (·.1) = false := by rfl) :
    QE X W (M ++ [i]) (.Call (.Attribute (.Name x px) "append" apos) (e :: es) [] cpos) (sMt i qs gApp) :=
  q_mt i PySem.F.slot_list_append PySem.F.type_list_append mt_append m_app ha hk hN hv hd hcd hbase hfew hline hs hplain
def sStore (i : Nat) (q qi : SemE) : SemS := fun D env => q env (fun t env1 => match t with
  | .fz d => isLst env1[i]? = true ∧ qi env1 (fun u env2 => match u, env2[i]? with
    | .fz (.int k), some (some (.ow .lst xs)) => ∃ j, ixN xs.length k = some j ∧ D.nx (env2.set i (some (.ow .lst (xs.set j d))))
    | _, _ => False) D.ex
  | _ => False) D.ex
theorem s_store (i : Nat) (he : QE X W Ma e q) (hix : QE X W Mb ix qi) (hN : X.N[i]? = some x := by rfl) (hv : Vis X.env.scope x := by first | exact Or.inl rfl | exact Or.inr (Or.inl rfl) | exact Or.inr (Or.inr rfl)) (hd : (x == ("__debug__" : Str)) = false := by decide)
    (hcd : (x == ("__classdict__" : Str)) = false := by decide) (ha : ∀ v, assign (.Subscript (.Name x px) ix tpos) X.env v = (do
      let ov ← holding [v] (eval (.Name x px) X.env)
      let iv ← holding [v, ov] (eval ix X.env)
      standAt tpos
      holding [v, ov, iv] (setItem ov iv v)
      release [v, ov, iv] []) := by intro _; rfl) (hs : swapsWithSole [.Subscript (.Name x px) ix tpos] e pos.line X.env = pure false := by rfl) (hw : swappedStores [.Subscript (.Name x px) ix tpos] e X.env = pure none := by rfl)
    (h1 : (assignEach [.Subscript (.Name x px) ix tpos] X.env).map (·.2) = [assign (.Subscript (.Name x px) ix tpos) X.env] := by rfl) : QS X W IO (.Assign [.Subscript (.Name x px) ix tpos] e pos) (sStore i q qi) :=
  ⟨PS_imp (ps_asg he.run (pg_sub (pe_var (i := i) hN hv hd hcd) hix.run set_list ha) hs hw h1) fun D σ H ⟨ow, env, De, s, hq, k⟩ => ⟨0, ow, env, _, De.ex, s, hq, fun v t H1 ow1 env1 y1 s1 _ r1 z => by
    split at z
    · rename_i d
      obtain ⟨hl, z⟩ := z
      obtain ⟨a, e1, _⟩ := ty_list s1 hl
      refine ⟨.ref a, e1, 1, ow1, env1, _, De.ex, s1, z, fun w u H2 ow2 env2 y2 s2 _ r2 z2 => ?_, (k.ex.step y1.fs Ios.refl).xk⟩
      split at z2
      · rename_i kk xs e2
        obtain ⟨j, hj, z2⟩ := z2
        obtain ⟨a', us, e3, c, hz, rr, eo⟩ := own_at s2 e2
        rw [e1] at e3
        cases e3
        have ew := Tq.rd r2
        cases ew
        have rd := (Tq.fz_.mp r1).mono y2.bs
        refine ⟨a, us, kk, j, rfl, rfl, c, by rw [rr.len]; exact hj, ?_⟩
        obtain ⟨y3, s3, _⟩ := own_set (n := 0) (fun ws z => by rw [c] at z; cases z) s2 e1 eo (by rw [List.length_set]; exact hz) (rr.set rd j)
        exact k.nx _ _ _ _ ((y1.fs.trans y2.fs).trans y3.fs) Ios.refl s3 z2
      · exact z2.elim
    · exact z.elim, k.ex.xk⟩⟩
end
theorem pget_list {X : Cx} : PGet X (fun o i H Q => ∃ p xs k v, o = .ref p ∧ i = .int k ∧ SqL X.K H p xs ∧ atI xs k = some v ∧ Q v H) := by
  intro pins s σ H o i ov iv Q I ro ri ⟨p, xs, k, v, e1, e2, hq, he, q⟩
  subst e1 e2
  cases ro
  obtain ⟨t, rfl⟩ := ri
  obtain ⟨its, r, pl, hz⟩ := I.list hq
  obtain ⟨j, h1, h2, h3, h4, h5⟩ := atI_get he
  obtain ⟨w, ew, rw'⟩ := r.get h2
  have hl := r.length
  have hn := line63
  have fin : EP X pins σ Q w s := ⟨v, H, I, rw', q⟩
  by_cases h0 : 0 ≤ k
  · have hj : k.toNat = j := by
      rw [PySem.seqIndex_of h0 h5] at h1
      exact Option.some.inj h1
    exact PySem.wpAny_getItem_list pl.isList h0 (by omega) (by rw [hj]; simpa using ew) fin
  · have hj : (k + (its.toArray.size : Int)).toNat = j := by
      rw [PySem.seqIndex_neg (by omega) h4] at h1
      rw [List.size_toArray, ← hl]
      exact Option.some.inj h1
    exact PySem.wpAny_getItem_list_neg pl.isList (by omega) (by rw [List.size_toArray] <;> omega) (by omega) (by rw [hj]; simpa using ew) fin
def sAugS (i : Nat) (qi q : SemE) (f : Int → Int → Int) : SemS := fun D env => isLst env[i]? = true ∧ qi env (fun u env1 => match u, env1[i]? with
  | .fz (.int k), some (some (.ow .lst xs)) => ∃ j, ixN xs.length k = some j ∧ ∃ m : Int, xs[j]? = some (.int m) ∧ q env1 (fun t env2 => match t, env2[i]? with
    | .fz (.int b), some (some (.ow .lst ys)) => j < ys.length ∧ ys.length = xs.length ∧ D.nx (env2.set i (some (.ow .lst (ys.set j (.int (f m b))))))
    | _, _ => False) D.ex
  | _, _ => False) D.ex
section
variable {X : Cx} {W : WX} {M Ma Mb IO : List Nat} {e ix : Expr} {q qi : SemE} {x : Str} {px pos tpos : Pos} {op : Operator} {f : Int → Int → Int}
theorem s_augS (i : Nat) (hop : PIp X op (ipI f)) (hix : QE X W Mb ix qi) (he : QE X W Ma e q) (hN : X.N[i]? = some x := by rfl) (hv : Vis X.env.scope x := by first | exact Or.inl rfl | exact Or.inr (Or.inl rfl) | exact Or.inr (Or.inr rfl)) (hd : (x == ("__debug__" : Str)) = false := by decide)
    (hcd : (x == ("__classdict__" : Str)) = false := by decide) (ha : ∀ ov iv new, augStore ix ov iv new = (do holding [new, ov, iv] (setItem ov iv new); release [new, ov, iv] []; pure .next) := by intros; rfl) :
    QS X W IO (.AugAssign (.Subscript (.Name x px) ix tpos) op e pos) (sAugS i qi q f) :=
  ⟨PS_imp (ps_augS (pe_var (i := i) hN hv hd hcd) hix.run pget_list he.run hop set_list ha) fun D σ H ⟨ow, env, De, s, ⟨h1, hq⟩, k⟩ => by
    obtain ⟨a, e1, _⟩ := ty_list s h1
    refine ⟨.ref a, e1, 0, ow, env, _, De.ex, s, hq, fun w u H1 ow1 env1 y1 s1 _ r1 z1 => ?_, k.ex.xk⟩
    split at z1
    · rename_i kk xs e2
      obtain ⟨j, hj, m, hm, z1⟩ := z1
      obtain ⟨a', us, e3, c, hz, rr, eo⟩ := own_at s1 e2
      rw [e1] at e3
      cases e3
      have ew := Tq.rd r1
      cases ew
      obtain ⟨v, ev, rv⟩ := rr.get hm
      cases rv
      refine ⟨a, us, kk, .int m, rfl, rfl, .inl (.inl c), ?_, 1, ow1, env1, _, De.ex, s1, z1, fun w2 t H2 ow2 env2 y2 s2 _ r2 z2 => ?_, (k.ex.step y1.fs Ios.refl).xk⟩
      · unfold L2.atI
        rw [rr.len, hj]
        exact ev
      · split at z2
        · rename_i bb ys e4
          obtain ⟨hjl, hly, z2⟩ := z2
          obtain ⟨a', us2, e5, c2, hz2, rr2, eo2⟩ := own_at s2 e4
          rw [e1] at e5
          cases e5
          have ew2 := Tq.rd r2
          cases ew2
          refine ⟨m, bb, rfl, rfl, a, us2, kk, j, rfl, rfl, c2, by rw [rr2.len, hly]; exact hj, ?_⟩
          obtain ⟨y3, s3, _⟩ := own_set (n := 0) (fun ws z => by rw [c2] at z; cases z) s2 e1 eo2 (by rw [List.length_set]; exact hz2) (rr2.set (.int (f m bb)) j)
          exact k.nx _ _ _ _ ((y1.fs.trans y2.fs).trans y3.fs) Ios.refl s3 z2
        · exact z2.elim
    · exact z1.elim⟩
end
end QV

set_option Elab.async false
set_option linter.all false
set_option maxRecDepth 100000
set_option maxHeartbeats 2000000
namespace QV
open PySem L2

def cutL {α : Type} (xs : List α) (lo hi : Option Int) : List α := (xs.drop (HT.sIx xs.length 0 lo)).take (HT.sIx xs.length xs.length hi - HT.sIx xs.length 0 lo)
abbrev SemO := Env → (Option Int → Env → Prop) → XQ → Prop
def tO (K : PySem.W.Frag) (W : WX) (M : List Nat) (q : SemO) : TO := fun σ H Qv => ∃ (n : Nat) (ow : Ow) (env : Env) (Q : Option Int → Env → Prop) (E : XQ), StOk K H ow σ env ∧ q env Q E ∧
  (∀ (o : Option Int) (H' : Hp) (ow' : Ow) (env' : Env), Stp M n H ow H' ow' → StOk K H' ow' σ env' → Out M env env' → Q o env' → Qv o H') ∧ Xk K W M σ H n ow env E
structure QO (X : Cx) (W : WX) (M : List Nat) (e : Option Expr) (q : SemO) : Prop where
  run : PO X e (tO X.K W M q)
theorem PO_imp {X : Cx} {e : Option Expr} {t t' : TO} (h : PO X e t) (f : ∀ σ H Q, t' σ H Q → t σ H Q) : PO X e t' := ⟨fun pins s σ H Q I q => h.run pins s σ H Q I (f _ _ _ q)⟩
def oNone : SemO := fun env Q _ => Q none env
def oSome (q : SemE) : SemO := fun env Q E => q env (fun t env1 => match t with
  | .fz (.int i) => Q (some i) env1
  | _ => False) E
def SlG (K : PySem.W.Frag) (r : V → Option Int → Option Int → Hp → VK → Prop) (g : T → Option Int → Option Int → (T → Prop) → Prop) : Prop := ∀ (H : Hp) (ow : Ow) (n : Nat) (x : V) (t : T) (lo hi : Option Int) (Q : T → Prop) (Qv : VK), Ro K H ow x t → g t lo hi Q →
  (∀ v w H' ow', Stp [] n H ow H' ow' → Tq K H' ow' (.tm n) v w → Q w → Qv v H') → r x lo hi H Qv
def sSl (pa : SemP) (ql qh : SemO) (g : T → Option Int → Option Int → (T → Prop) → Prop) : SemE := fun env Q E => pa env (fun t _ env1 => ql env1 (fun lo env2 => qh env2 (fun hi env3 => g t lo hi fun w => Q w env3) E) E) E
section
variable {X : Cx} {W : WX} {M Ma Ml Mh : List Nat} {e : Expr} {lo hi : Option Expr} {pa : SemP} {q : SemE} {ql qh : SemO} {ra : Option Nat} {pos p2 : Pos}
theorem o_none : QO X W [] none oNone := ⟨PO_imp po_none fun σ H Qv ⟨n, ow, env, Q, E, s, hq, k, x⟩ => k none H ow env Stp.refl s Out.refl hq⟩
theorem o_some (h : QE X W M e q) : QO X W M (some e) (oSome q) := ⟨PO_imp (po_some h.run) fun σ H Qv ⟨n, ow, env, Q, E, s, hq, k, x⟩ => ⟨n, ow, env, _, E, s, hq, fun v t H' ow' env' y s' o r z => by
  split at z
  · have := Tq.rd r
    cases this
    exact ⟨_, rfl, k _ H' ow' env' y s' o z⟩
  · exact z.elim, x⟩⟩
theorem q_sl {r : V → Option Int → Option Int → Hp → VK → Prop} {g : T → Option Int → Option Int → (T → Prop) → Prop} (hs : SlR X r) (hg : SlG X.K r g) (ha : QP X W Ma ra e pa) (hl : QO X W Ml lo ql) (hh : QO X W Mh hi qh) (hr : okR ra Ml = true := by decide) (hr2 : okR ra Mh = true := by decide) :
    QE X W (Ma ++ (Ml ++ Mh)) (.Subscript e (.Slice lo hi none p2) pos) (sSl pa ql qh g) :=
  ⟨PE_imp (pe_slice hs ha.run hl.run hh.run) fun σ H Qv ⟨n, ow, env, Q, E, s, hq, k, x⟩ => ⟨n, ow, env, _, E, s, hq, fun v t pt H1 ow1 env1 y1 s1 o1 r1 z1 =>
    ⟨n + 1, ow1, env1, _, E, s1, z1, fun l H2 ow2 env2 y2 s2 o2 z2 => ⟨n + 1, ow2, env2, _, E, s2, z2, fun u H3 ow3 env3 y3 s3 o3 z3 => by
      have y12 := y1.trans y2 subl (fun i h => subr i (subl i h)) (Nat.le_refl _) (Nat.le_succ _) (M := Ma ++ (Ml ++ Mh))
      have o12 := o1.trans o2 subl (fun i h => subr i (subl i h)) (M := Ma ++ (Ml ++ Mh))
      have r3 := ((r1.stp y2 o2 hr (Nat.lt_succ_self _)).stp y3 o3 hr2 (Nat.lt_succ_self _)).ro s3
      exact hg H3 ow3 n v t l u _ Qv r3 z3 fun v' w H4 ow4 y4 r4 z4 => k v' w H4 ow4 env3 ((y12.trans y3 (fun _ h => h) (fun i h => subr i (subr i h)) (Nat.le_refl _) (Nat.le_succ _)).trans y4 (fun _ h => h) nilsub (Nat.le_refl _) (Nat.le_refl _)) (s3.stp0 y4) (o12.trans o3 (fun _ h => h) (fun i h => subr i (subr i h))) r4 z4,
      x.step (y1.trans y2 subl (fun i h => subr i (subl i h)) (Nat.le_refl _) (Nat.le_succ _)) (o1.trans o2 subl (fun i h => subr i (subl i h))) (fun _ h => h) (fun i h => subr i (subr i h)) (Nat.le_refl _) (Nat.le_succ _)⟩,
      x.step y1 o1 subl (fun i h => subr i (subl i h)) (Nat.le_refl _) (Nat.le_succ _)⟩, fun r d H' ow' env' y s' o => x r d H' ow' env' (y.mono subl (Nat.le_refl _)) s' (o.mono subl)⟩⟩
end
section
variable {K : PySem.W.Frag}
theorem cutV_eq (xs : List V) (lo hi : Option Int) : cutV xs lo hi = cutL xs lo hi := rfl
theorem Rps.cut {B : Hp} {vs : List V} {ds : List D} (r : Rps K B vs ds) (lo hi : Option Int) : Rps K B (cutL vs lo hi) (cutL ds lo hi) := by
  unfold cutL
  rw [r.len]
  exact (r.drop _).take _
theorem cut_ints (ns : List Int) (lo hi : Option Int) : cutL (ns.map V.int) lo hi = (cutL ns lo hi).map V.int := by
  unfold cutL
  rw [List.length_map, ← List.map_drop, ← List.map_take]
def slG (t : T) (lo hi : Option Int) (Q : T → Prop) : Prop := match t with
  | .fz (.nd .lst ds) => Q (.ow .lst (cutL ds lo hi))
  | .ow .lst ds => Q (.ow .lst (cutL ds lo hi))
  | .fz (.scr ns) => ns.length ≤ sizeLine ∧ Q (.ow .lst ((cutL ns lo hi).map .int))
  | .fz (.nd .tup ds) => Q (.fz (.nd .tup (cutL ds lo hi)))
  | .fz (.str z) => z.length ≤ sizeLine ∧ Q (.fz (.str (cutS z lo hi)))
  | _ => False
def rSlAll (K : PySem.W.Frag) : V → Option Int → Option Int → Hp → VK → Prop := fun x lo hi H Q => rSlL K x lo hi H Q ∨ rSlA K x lo hi H Q ∨ rSlS x lo hi H Q
theorem sl_all {X : Cx} : SlR X (rSlAll X.K) := sl_list.or (sl_tupA.or sl_str)
theorem g_sl : SlG K (rSlAll K) slG := by
  intro H ow n x t lo hi Q Qv rx h k
  have lst : ∀ {ds : List D}, shL t = some ds → Q (.ow .lst (cutL ds lo hi)) → rSlAll K x lo hi H Qv := fun {ds} e q => by
    obtain ⟨a, vs, rfl, c, z, r⟩ := rx.lst e
    exact .inl ⟨a, vs, rfl, .inl (.inl c), fun p hp => k _ _ _ (Ow.put ow p (.tm n)) (Stp.new hp) (Tq.newL hp (Nat.le_trans (cutV_length _ _ _) z) (r.cut lo hi)) q⟩
  unfold slG at h
  split at h
  · exact lst rfl h
  · exact lst rfl h
  · rename_i ns
    have rd := rx.rd
    cases rd with
    | scr c =>
      refine .inl ⟨_, _, rfl, c, fun p hp => k _ _ _ (Ow.put ow p (.tm n)) (Stp.new hp) (Tq.newL hp ?_ ?_) h.2⟩
      · exact Nat.le_trans (cutV_length _ _ _) (by rw [List.length_map]; exact h.1)
      · rw [cutV_eq, cut_ints]
        exact of_ints _
  · rename_i ds
    obtain ⟨a, vs, rfl, c, z, r⟩ := rx.tup rfl
    refine .inr (.inl ⟨a, vs, rfl, c, fun w => ?_, fun _ p hp => k _ _ _ (Ow.put ow p .base) (Stp.new hp) (Tq.fz_.mpr (.tup (by rw [bs_of put_same, upd_same]) (Nat.le_trans (cutV_length _ _ _) z) ((r.cut lo hi).mono (Stp.bs (M := []) (n := 0) (Stp.new hp))))) h⟩)
    have e : cutL ds lo hi = ds := by
      unfold cutL
      rw [← r.len, w.1, w.2]
      simp [r.len]
    rw [e] at h
    exact k _ _ H ow Stp.refl (by obtain ⟨l, rx⟩ := rx; exact Tq.fz_.mpr (Tq.fz_.mp rx)) h
  · exact .inr (.inr ⟨_, rx.str, h.1, k _ _ H ow Stp.refl (Tq.fz_.mpr (.str _)) h.2⟩)
  · exact h.elim
end
section
variable {X : Cx} {W : WX} {M Ma Ml Mh : List Nat} {e : Expr} {lo hi : Option Expr} {pa : SemP} {q : SemE} {ql qh : SemO} {ra : Option Nat} {pos p1 p2 p3 : Pos}
theorem q_slice (ha : QP X W Ma ra e pa) (hl : QO X W Ml lo ql) (hh : QO X W Mh hi qh) (hr : okR ra Ml = true := by decide) (hr2 : okR ra Mh = true := by decide) : QE X W (Ma ++ (Ml ++ Mh)) (.Subscript e (.Slice lo hi none p2) pos) (sSl pa ql qh slG) := q_sl sl_all g_sl ha hl hh hr hr2
def Mt1 (K : PySem.W.Frag) (r : V → List V → Hp → VK → Prop) (g : Str → T → (T → Prop) → Prop) : Prop := ∀ (H : Hp) (ow : Ow) (n : Nat) (x : Str) (v : V) (t : T) (Q : T → Prop) (Qv : VK), Ro K H ow v t → g x t Q →
  (∀ v w H' ow', Stp [] n H ow H' ow' → Tq K H' ow' (.tm n) v w → Q w → Qv v H') → r (.str x) [v] H Qv
def sM1 (q : SemE) (pa : SemP) (g : Str → T → (T → Prop) → Prop) : SemE := fun env Q E => q env (fun t env1 => match t with
  | .fz (.str x) => pa env1 (fun u _ env2 => g x u fun w => Q w env2) E
  | _ => False) E
theorem q_m1 {o : Expr} {id : String} {name : Str} {apos : Pos} {r : V → List V → Hp → VK → Prop} {g : Str → T → (T → Prop) → Prop} (slot : Slot "str" name id) (ty : typeOf (.builtin id) = pure (.type "method_descriptor")) (rule : MtR X id r) (hg : Mt1 X.K r g) (ho : QE X W Ma o q) (he : QP X W Ml ra e pa)
    (hs : starEach [e] X.env = [(false, eval e X.env)] := by rfl) (hbase : attributeBase o name X.env (eval o X.env) = eval o X.env := by rfl) (hline : (apos.endLine == pos.line) = true := by rfl) : QE X W (Ma ++ Ml) (.Call (.Attribute o name apos) [e] [] pos) (sM1 q pa g) :=
  ⟨PE_imp (pe_m1 slot ty rule ho.run he.run hs hbase hline) fun σ H Qv ⟨n, ow, env, Q, E, s, hq, k, x⟩ => ⟨n, ow, env, _, E, s, hq, fun v t H1 ow1 env1 y1 s1 o1 r1 z1 => by
    split at z1
    · have rd := Tq.rd r1
      cases rd
      refine ⟨⟨_, rfl⟩, n + 1, ow1, env1, _, E, s1, z1, fun w u pt H2 ow2 env2 y2 s2 o2 r2 z2 => ?_, x.step y1 o1 subl subr (Nat.le_refl _) (Nat.le_succ _)⟩
      exact hg H2 ow2 n _ w u _ Qv (r2.ro s2) z2 fun v' w' H3 ow3 y3 r3 z3 => k v' w' H3 ow3 env2 ((y1.trans y2 subl subr (Nat.le_refl _) (Nat.le_succ _)).trans y3 (fun _ h => h) nilsub (Nat.le_refl _) (Nat.le_refl _)) (s2.stp0 y3) (o1.trans o2 subl subr) r3 z3
    · exact z1.elim, fun r d H' ow' env' y s' o => x r d H' ow' env' (y.mono subl (Nat.le_refl _)) s' (o.mono subl)⟩⟩
def joinG (a : Str) (t : T) (Q : T → Prop) : Prop := ∃ ys : List Str, seqT t = some (ys.map .str) ∧ (ys.map (·.length)).sum + ys.length * a.length ≤ 16777216 ∧ Q (.fz (.str (Txt.join a ys)))
theorem strs_of {K : PySem.W.Frag} {B : Hp} : ∀ {vs : List V} {ns : List Str}, Rps K B vs (ns.map .str) → vs = ns.map V.str
  | _, [], .nil => rfl
  | _, n :: ns, .cons r s => by
    cases r
    rw [List.map_cons, strs_of s]
theorem g_join {K : PySem.W.Frag} : Mt1 K (fun x xs H Q => ∃ a p, ∃ ys : List Str, x = .str a ∧ xs = [.ref p] ∧ (SqL K H p (ys.map V.str) ∨ SqT K H p (ys.map V.str)) ∧ (ys.map (·.length)).sum + ys.length * a.length ≤ 16777216 ∧ Q (.str (Txt.join a ys)) H) joinG := by
  intro H ow n x v t Q Qv rv ⟨ys, e, hz, q⟩ k
  obtain ⟨a, vs, rfl, c, z, r⟩ := rv.seq e
  have ev := strs_of r
  subst ev
  exact ⟨x, a, ys, rfl, rfl, c, hz, k _ _ H ow Stp.refl (Tq.fz_.mpr (.str _)) q⟩
theorem q_join {o : Expr} {apos : Pos} (ho : QE X W Ma o q) (he : QP X W Ml ra e pa) (hs : starEach [e] X.env = [(false, eval e X.env)] := by rfl) (hbase : attributeBase o "join" X.env (eval o X.env) = eval o X.env := by rfl) (hline : (apos.endLine == pos.line) = true := by rfl) :
    QE X W (Ma ++ Ml) (.Call (.Attribute o "join" apos) [e] [] pos) (sM1 q pa joinG) := q_m1 F.slot_str_join F.type_str_join mt_join g_join ho he hs hbase hline
end
def shwD (d : D) : Prop := d.py.showable = true ∧ d.py.shown.length ≤ sizeLine
theorem noDict_of_lay : ∀ d : PyData, d.canLay0 = true → d.hasDict = false := fun d h => PyData.hasDict_of_canLay d h
def rRepr (K : PySem.W.Frag) : List V → Hp → VK → Prop := fun xs H Q => ∃ x d, xs = [x] ∧ Dp K H x d ∧ SeqAt.shaped d = true ∧ d.showable = true ∧ d.shown.length ≤ sizeLine ∧ Q (.str d.shown) H
theorem c_repr {X : Cx} (hG : X.A.guards = some []) (hu : X.A.units + 66 < cLine) : CallR X (.builtin "repr") (rRepr X.K) := by
  intro pins s σ H xs us Q I r ⟨x, d, ex, hd, hs, hw, hz, q⟩
  subst ex
  obtain ⟨u, rfl, ru⟩ := vals1 r
  have hl := SeqAt.canLay_of_shaped hs
  have hdep := SeqAt.depth_of_shaped hs
  obtain ⟨as, rd⟩ := Dp.reads I d x u hd ru
  cases hd with
  | non => cases ru; rw [PyData.shown_none] at q; exact PySem.P.repr_of_none ⟨.str _, H, I.tok _, ⟨_, rfl⟩, q⟩
  | bl b => cases ru; rw [PyData.shown_bool] at q; exact PySem.P.repr_of_bool ⟨.str _, H, I.tok _, ⟨_, by cases b <;> rfl⟩, q⟩
  | int i => obtain ⟨t, rfl⟩ := ru; rw [PyData.shown_int] at q; exact PySem.P.repr_of_int (by simpa [PyData.showable] using hw) ⟨.str _, H, I.tok _, ⟨_, rfl⟩, q⟩
  | str z => obtain ⟨t, rfl⟩ := ru; rw [PyData.shown_str] at q hz; exact PySem.P.repr_of_str ⟨.str _, H, I.tok _, ⟨_, rfl⟩, q⟩ hz
  | lst h1 h2 =>
    cases ru
    exact repr_of_reads' rd hw (fun z => by rw [noDict_of_lay _ hl] at z; cases z) hG (by omega) (fun _ _ e => e) (fun h' u tk hk => ⟨.str _, H, I.kept hk, ⟨_, rfl⟩, q⟩) hz
  | tup h1 h2 =>
    cases ru
    exact repr_of_reads' rd hw (fun z => by rw [noDict_of_lay _ hl] at z; cases z) hG (by omega) (fun _ _ e => e) (fun h' u tk hk => ⟨.str _, H, I.kept hk, ⟨_, rfl⟩, q⟩) hz
def reprG (t : T) (Q : T → Prop) : Prop := t.d.pl 64 = true ∧ shwD t.d ∧ Q (.fz (.str t.d.py.shown))
theorem g_repr {K : PySem.W.Frag} : Op1 K (fun x H Q => rRepr K [x] H Q) reprG := by
  intro H ow n x t Q Qv rx ⟨h1, h2, q⟩ k
  exact ⟨x, _, rfl, rx.rd.dp _ h1, D.pl_shaped h1 (Nat.le_refl _), h2.1, h2.2, k _ _ H ow Stp.refl (Tq.fz_.mpr (.str _)) q⟩
end QV

set_option Elab.async false
set_option linter.all false
set_option maxRecDepth 100000
set_option maxHeartbeats 2000000
namespace QV
open PySem PySem.Spec PyProof.Rows L2

theorem hu65 {A : Around} {k : Nat} (hr : Room k A) : A.units + 65 < cLine := by have := hr.un; omega
theorem hu66 {A : Around} {k : Nat} (hr : Room k A) : A.units + 66 < cLine := by have := hr.un; omega
theorem bt_len : bootBuiltins "len" = some (.builtin "len") := by decide +kernel
theorem bt_abs : bootBuiltins "abs" = some (.builtin "abs") := by decide +kernel
theorem bt_sum : bootBuiltins "sum" = some (.builtin "sum") := by decide +kernel
theorem bt_all : bootBuiltins "all" = some (.builtin "all") := by decide +kernel
theorem bt_any : bootBuiltins "any" = some (.builtin "any") := by decide +kernel
theorem bt_max : bootBuiltins "max" = some (.builtin "max") := by decide +kernel
theorem bt_min : bootBuiltins "min" = some (.builtin "min") := by decide +kernel
theorem bt_repr : bootBuiltins "repr" = some (.builtin "repr") := by decide +kernel
theorem bt_list : bootBuiltins "list" = some (.type "list") := by decide +kernel
theorem bt_tuple : bootBuiltins "tuple" = some (.type "tuple") := by decide +kernel
theorem bt_int : bootBuiltins "int" = some (.type "int") := by decide +kernel
theorem bt_str : bootBuiltins "str" = some (.type "str") := by decide +kernel
def DefAt (K : PySem.W.Frag) (mg : Str → Option Value) (x : Str) (st : Stmt) (ps : List Str) : Prop := ∃ f fd, Fun K x x st f fd ∧ mg x = some (.ref f) ∧ Binds K fd ps []
def Callee (P : Program) (w : World) (K : PySem.W.Frag) (mg : Str → Option Value) (base : Heap) (k : Nat) (x : Str) (ps : List Str) (io : List Nat) (spec : SemF) : Prop := ∃ f fd, QFn P w K mg base k f fd ps io spec ∧ mg x = some (.ref f) ∧ PySem.W.keepIn K (.ref f) = true ∧ Binds K fd ps []
section
variable {P : Program} {w : World} {K : PySem.W.Frag} {mg : Str → Option Value} {base : Heap}
theorem callee_of {k : Nat} {x : Str} {st : Stmt} {N ps : List Str} {io : List Nat} {spec : SemF} (Df : DefAt K mg x st ps) (S : FnScope N ps (defScope st)) (hio : (io.all fun i => decide (i < ps.length)) = true) (hpN : ps.length ≤ N.length)
    (hb : ∀ (f : Addr) (cdv : Value) (A : Around) (outer : List PySem.Env) (s : Shared) (H : Hp) (E : XK) (W : WX), Room k (A.deeper (envOfC x (defScope st) s.heap.objs.size f cdv)) → A.guards = some [] → L2.Takes (cxOf (L2.CX P w) P w K mg base N x (defScope st) f cdv A outer s H E) W →
      PassesOwn (model P w) (A.deeper (envOfC x (defScope st) s.heap.objs.size f cdv)) (envOfC x (defScope st) s.heap.objs.size f cdv) (cxOf (L2.CX P w) P w K mg base N x (defScope st) f cdv A outer s H E).xe →
      ∃ q, QSs (cxOf (L2.CX P w) P w K mg base N x (defScope st) f cdv A outer s H E) W io (defBody st) q ∧ ∀ args Q E, args.length = ps.length → spec args Q E → q (EndsF io Q E) (env0 N.length args)) : Callee P w K mg base (k + 1) x ps io spec :=
  let ⟨f, fd, F, m, b⟩ := Df
  ⟨f, fd, qfn_of F S hio hpN (hb f), m, F.kp, b⟩
theorem Callee.imp {k : Nat} {x : Str} {ps : List Str} {io : List Nat} {spec spec' : SemF} (C : Callee P w K mg base k x ps io spec) (h : ∀ a Q E, spec' a Q E → spec a Q E) : Callee P w K mg base k x ps io spec' :=
  let ⟨f, fd, F, r⟩ := C
  ⟨f, fd, F.imp h, r⟩
theorem def_at {x : Str} {st : Stmt} {ps : List Str} {h : Heap} {f : Addr} {oc : Value} {od an : Option Addr} {osl : Array (Option Value)} {kV doc pm cdv ct : Value} (X : K.In h) (G : h.Ns mainGlobals mg) (a : PySem.W.nsIn K mainGlobals x = some (some (.ref f)))
    (l : K.lookup f = some ⟨oc, od, .func (PySem.W.fnOf x x (defArgs st) (defBody st) (defScope st) .none kV doc pm an cdv ct), osl⟩) (c : PySem.W.codeIn K cdv x = true) (k : PySem.W.keepIn K (.ref f) = true)
    (hb : ∀ (kV doc pm : Value) (an : Option Addr) (cdv ct : Value) (us : List Value), us.length = ps.length → bindArgs (PySem.W.fnOf x x (defArgs st) (defBody st) (defScope st) .none kV doc pm an cdv ct) ⟨us, []⟩ = pure (ps.zip us)) : DefAt K mg x st ps :=
  have F := fun_mk (x := x) (qual := x) (st := st) l c k
  ⟨f, _, F, PySem.W.mg_of X G a, F.binds hb⟩
end
section
variable {X : Cx} {W : WX} {M : List Nat} {j k : Nat} {ps : List Str} {io : List Nat} {spec : SemF} {ks : List (Option Nat)} {e : Expr} {es : List Expr} {qs : SemD} {x : Str} {p pos : Pos}
theorem q_callC (C : Callee X.prog X.w X.K X.mg X.base k x ps io spec) (tk : L2.Takes X W) (hr : Room k X.A) (hG : X.A.guards = some []) (hg : Gl X x)
    (ha : QA X W M ks (e :: es) qs) (cs : List Nat) (hio : io.Nodup := by decide) (hK : okK ks io cs = true := by decide) (hn : ks.length = ps.length := by rfl) (hdb : (x == ("__debug__" : Str)) = false := by decide) (he : starEach (e :: es) X.env = (false, eval e X.env) :: starEach es X.env := by rfl)
    (hpl : (backTo pos (starEach es X.env)).any (·.1) = false := by rfl) : QE X W (M ++ cs) (.Call (.Name x p) (e :: es) [] pos) (sCall spec ks cs qs) :=
  let ⟨_, _, F, hm, hk, hb⟩ := C
  q_call F tk hr hG hg hm hk hb ha cs hio hK hn hdb he hpl
end
end QV

set_option Elab.async false
set_option linter.all false
set_option maxRecDepth 100000
set_option maxHeartbeats 2000000
namespace QV
open PySem L2
theorem cmulR {i j : Int} (h1 : -(18446744073709551616) < j) (h2 : j < 18446744073709551616) : CMul i j := .inr ⟨by simpa using h1, by simpa using h2⟩
theorem cmulL {i j : Int} (h1 : -(18446744073709551616) < i) (h2 : i < 18446744073709551616) : CMul i j := .inl ⟨by simpa using h1, by simpa using h2⟩
theorem cdivS {i j : Int} (h1 : 0 < j) (h2 : j < 18446744073709551616) : CDivW i j := ⟨h1, by
  have h : j.natAbs.log2 < 64 := (Nat.log2_lt (by omega)).mpr (by omega)
  omega⟩
theorem cdivB {i j : Int} (h1 : 0 < j) (h2 : j < 10000000000000000000000) : CDivW i j := ⟨h1, by
  have h : j.natAbs.log2 < 74 := (Nat.log2_lt (by omega)).mpr (by omega)
  omega⟩
theorem ixN_of {n : Nat} {i : Int} (h0 : 0 ≤ i) (h1 : i < n) : ixN n i = some i.toNat := by
  unfold ixN
  rw [if_pos h0, if_pos h1]
theorem at_lt {α : Type} {ds : List α} {i : Int} (h0 : 0 ≤ i) (h1 : i < ds.length) : ∃ d, atI ds i = some d ∧ d ∈ ds := by
  unfold atI
  rw [ixN_of h0 h1]
  have h2 : i.toNat < ds.length := by omega
  exact ⟨ds[i.toNat], by simp [h2], List.getElem_mem h2⟩
theorem at_all {α : Type} {ds : List α} {i : Int} {C : α → Prop} {R : α → Prop} (h0 : 0 ≤ i) (h1 : i < ds.length) (hC : ∀ d ∈ ds, C d) (k : ∀ d, C d → R d) : ∃ d, atI ds i = some d ∧ R d := by
  obtain ⟨d, e, m⟩ := at_lt h0 h1
  exact ⟨d, e, k d (hC d m)⟩
theorem at_of {α : Type} {l : List α} {k : Nat} {a : α} (h : l[k]? = some a) : atI l (k : Int) = some a := by
  have hk : k < l.length := (List.getElem?_eq_some_iff.mp h).1
  unfold atI
  rw [ixN_of (by omega) (by omega)]
  simpa using h
theorem at_int {α : Type} {l : List α} {i : Int} {a : α} (h0 : 0 ≤ i) (h : l[i.toNat]? = some a) : atI l i = some a := by
  have := at_of h
  rwa [Int.toNat_of_nonneg h0] at this
def IsBag (t : T) : Prop := ∃ a b c : Int, ∃ ns : List Int, t = .ow .lst [.int a, .int b, .int c, .nd .lst (ns.map .int)] ∧ 0 ≤ a ∧ 0 ≤ b ∧ b < 2147483647 ∧ 0 ≤ c ∧ ∀ x, x ∈ ns → 0 ≤ x
def bagS : SemF := fun args Q E => ∃ ns : List Int, args = [.fz (.scr ns)] ∧ ns.length ≤ 63 ∧ ∀ t', IsBag t' → Q t' []
def alikeS : SemF := fun args Q E => ∃ d : D, args = [.fz d, .fz d] ∧ d.pl 64 = true ∧ shwD d ∧ Q (.fz (.bl true)) []
mutual
theorem eqD_self : ∀ (n : Nat) (d : D), d.pl n = true → eqD d d = true
  | _, .non, _ => rfl
  | _, .bl _, _ => by simp [eqD]
  | _, .int _, _ => by simp [eqD]
  | _, .str _, _ => by simp [eqD]
  | n, .scr _, h => by cases n <;> simp [D.pl] at h
  | 0, .nd _ _, h => by simp [D.pl] at h
  | n + 1, .nd .lst ds, h => by rw [eqD]; exact eqDs_self n ds (by simpa [D.pl] using h)
  | n + 1, .nd .tup ds, h => by rw [eqD]; exact eqDs_self n ds (by simpa [D.pl] using h)
  | n + 1, .nd (.dK _) ds, h => by simp [D.pl] at h
  | n + 1, .nd (.dT _) ds, h => by simp [D.pl] at h
  | n + 1, .nd (.lkT _ _) ds, h => by simp [D.pl] at h
  | n + 1, .nd (.lsA _) ds, h => by simp [D.pl] at h
  | n + 1, .nd (.ins _ _) ds, h => by simp [D.pl] at h
theorem eqDs_self : ∀ (n : Nat) (ds : List D), Dspl n ds = true → eqDs ds ds = true
  | _, [], _ => rfl
  | n, d :: ds, h => by
    have h' : D.pl n d = true ∧ Dspl n ds = true := by simpa [Dspl] using h
    rw [eqDs, eqD_self n d h'.1, eqDs_self n ds h'.2]
    rfl
end
end QV

set_option Elab.async false
set_option Elab.async false
set_option linter.all false
set_option maxRecDepth 100000
set_option maxHeartbeats 2000000
namespace QV
open PySem PySem.Spec PyProof.Rows L2
section
variable {P : Program} {w : World} {K : PySem.W.Frag} {mg mb : Str → Option Value} {k : Nat} {fa a : Addr} {p1 : Str} {sp : Sp} {st : Shared}
theorem end_core {us : List Value} (inK : K.In st.heap) (gN : st.heap.Ns mainGlobals mg) (bN : st.heap.Ns builtinsNs mb) (boot : ∀ y : Str, y ≠ "__name__" → mb y = bootBuiltins y) (lim : st.heap.NoLimit) (gens : st.gens = #[])
    (cell : st.heap.get? a = some { cls := .type "list", data := .seq us.toArray }) (room : Room k callerA) (F : ∀ base : Heap, ∃ fd, FnG P w K mg base k fa fd [p1] sp ∧ Binds K fd [p1] [])
    (H : Hp) (only : Only H) (say : sp [.ref a] H (fun v _ => v = .bl true) fun _ _ _ => False) (ok0 : HOk P w H st.heap) (just : ∀ b, H b ≠ none → b = a) (out : H a ≠ none → K.lookup a = none) :
    codeAny (model P w) callerA (.call (.ref fa) ⟨[.ref a], []⟩) (fun r s' => r = .ok (.ret (.bool true)) ∧ OldK st.heap s'.heap ∧ s'.os = st.os ∧ AllBare s'.gens) st := by
  have free : ∀ {b : Addr} {o : Obj} {es : Array DictEntry} {n : Nat}, st.heap.get? b = some o → o.data = .dict es n → H b = none := by
    intro b o es n e1 e2
    rcases Classical.em (H b = none) with z | z
    · exact z
    · have eb := just b z
      subst eb
      have := cell.symm.trans e1
      cases this
      exact Data.noConfusion e2
  have keepNs : ∀ {b : Addr} {m : Str → Option Value}, st.heap.Ns b m → (hidT st.heap H).Ns b m := by
    rintro b m ⟨o, es, n, g1, g2, rest⟩
    exact ⟨o, es, n, hidT_get g1 (free g1 g2), g2, rest⟩
  have inB : K.In (hidT st.heap H) := by
    intro b o e
    refine hidT_get (inK b o e) ?_
    rcases Classical.em (H b = none) with z | z
    · exact z
    · have eb := just b z
      subst eb
      have := (out z).symm.trans e
      cases this
  obtain ⟨mc, lim1, lim2⟩ := lim
  have md : Mod K mg (hidT st.heap H) := ⟨inB, keepNs gN, ⟨mb, keepNs bN, boot⟩, ⟨mc, keepNs lim1, lim2⟩⟩
  have none0 : ∀ {b : Addr}, b ∉ ([] : List Addr) := fun z => nomatch z
  have env0 : Env0 P w K mg (hidT st.heap H) callerA [] st H :=
    ⟨rfl, md, fun _ _ z => of_hidT z, Nat.le_of_eq (hidT_size _ _), trivial, fun _ z => absurd z none0, ok0, .of_eq gens⟩
  obtain ⟨fd, fn, bnd⟩ := F (hidT st.heap H)
  have run := fn.run callerA [] st H ⟨[.ref a], []⟩ [.ref a] [.ref a] _ _ room rfl env0 (bnd st [.ref a] inK rfl) (.cons rfl .nil) say
  refine codeAny_mono run fun r s' told => ?_
  rcases r with ex | fl
  · obtain ⟨_, _, _, _, _, _, _, _, _, _, _, _, z⟩ := told
    exact z.elim
  · cases fl with
    | ret u =>
      obtain ⟨v, H2, os, bare, un, ok2, ru, ev⟩ := told
      cases (show v = .bl true from ev)
      cases (show u = Value.bool true from ru)
      refine ⟨rfl, OldK.of_keep ?_, os, bare⟩
      intro b o e
      rcases only b with z | ⟨oo, ys, z⟩
      · exact un.keep b o e z none0 (by simp)
      · have g1 := (ok0 b _ z).1
        have g2 := (ok2 b _ (un.frzs b oo _ z)).1
        rw [e] at g1
        cases g1
        exact g2
    | next => exact told.elim
    | brk => exact told.elim
    | cont => exact told.elim
theorem end_call {us : List Value} {ns : List Int} (inK : K.In st.heap) (gN : st.heap.Ns mainGlobals mg) (bN : st.heap.Ns builtinsNs mb) (boot : ∀ y : Str, y ≠ "__name__" → mb y = bootBuiltins y) (lim : st.heap.NoLimit) (gens : st.gens = #[])
    (cell : st.heap.get? a = some { cls := .type "list", data := .seq us.toArray }) (nums : IntsAre us ns) (size : ns.length ≤ sizeLine) (room : Room k callerA) (F : ∀ base : Heap, ∃ fd, FnG P w K mg base k fa fd [p1] sp ∧ Binds K fd [p1] [])
    (say : ∀ H : Hp, SqL K H a (ns.map V.int) → sp [.ref a] H (fun v _ => v = .bl true) fun _ _ _ => False) :
    codeAny (model P w) callerA (.call (.ref fa) ⟨[.ref a], []⟩) (fun r s' => r = .ok (.ret (.bool true)) ∧ OldK st.heap s'.heap ∧ s'.os = st.os ∧ AllBare s'.gens) st := by
  have vals := vals_ints nums
  have same := nums.length
  have go := fun H => end_core (p1 := p1) (sp := sp) inK gN bN boot lim gens cell room F H
  rcases lk : K.lookup a with _ | o
  · let H0 : Hp := fun b => if b = a then some (.frz { cls := .type "list", data := .seq us.toArray } (.lst (ns.map V.int))) else none
    have at0 : H0 a = some (.frz { cls := .type "list", data := .seq us.toArray } (.lst (ns.map V.int))) := if_pos rfl
    have off : ∀ {b : Addr}, b ≠ a → H0 b = none := fun z => if_neg z
    refine go H0 (fun b => ?_) (say H0 (.inl (.inr ⟨_, at0⟩))) (fun b u z => ?_) (fun b z => ?_) fun _ => lk
    · rcases Classical.em (b = a) with z | z
      · subst z; exact .inr ⟨_, _, at0⟩
      · exact .inl (off z)
    · rcases Classical.em (b = a) with eb | eb
      · subst eb
        rw [at0] at z
        cases z
        exact ⟨cell, by rw [List.length_map]; exact size, us, _, vals, cell⟩
      · rw [off eb] at z
        cases z
    · exact Classical.byContradiction fun eb => z (off eb)
  · have e := inK a o lk
    rw [cell] at e
    cases e
    exact go (fun _ => none) (fun _ => .inl rfl) (say _ (.inr ⟨_, us.toArray, _, lk, rfl, rfl, rfl, by rw [List.size_toArray, same]; exact size, by simpa using vals⟩)) (fun _ u z => nomatch (show (none : Option HO) = some u from z)) (fun _ z => (z rfl).elim) fun z => (z rfl).elim
end
def lawS (n : Nat) : SemF := fun args Q E => ∃ ns : List Int, args = [.fz (.scr ns)] ∧ ns.length ≤ n ∧ Q (.fz (.bl true)) []
theorem say_law {K : PySem.W.Frag} {H : Hp} {a : Addr} {ns : List Int} {n : Nat} (hn : ns.length ≤ n) (h : SqL K H a (ns.map V.int)) : spQ K 1 [] (lawS n) [.ref a] H (fun v _ => v = .bl true) fun _ _ _ => False := by
  have eB : Bs H (fun _ => Lab.base) = H := by funext b; unfold Bs; exact if_pos rfl
  refine ⟨rfl, fun _ => .base, [.fz (.scr ns)], fun t _ => t = .fz (.bl true), fun _ _ => False, rfl, fun i t e => ?_, ⟨ns, rfl, hn, rfl⟩, fun v t H' ow' outs _ r _ _ q => ?_, fun _ _ _ _ _ _ _ _ _ z => z.elim⟩
  · rcases i with _ | i
    · cases e
      exact ⟨_, rfl, Tq.fz_.mpr (.scr (by rw [eB]; exact h))⟩
    · simp at e
  · subst q
    have e := Tq.rd r
    cases e
    rfl
theorem walk_ofG {l : PySem.W.OpenLaw} {n k : Nat} {q : Program} {loose : List Str} {XP : (Str → Option Value) → Heap → Prop} {YP : World → Heap → Prop} {d : DefRec} {K : Params → PySem.W.Frag} {x : Str}
    (most : l.most = some n) (small : n ≤ sizeLine) (plain : d.params.defaults = []) (room : Room k callerA) (inY : ∀ (w : World) (h : Heap), YP w h → (K w.params).In h)
    (F : ∀ (w : World) (mg : Str → Option Value) (h : Heap), (K w.params).In h → h.Ns mainGlobals mg → ∀ base : Heap, Callee l.prog w (K w.params) mg base k d.name [x] [] (lawS n)) :
    PySem.W.WalkO q loose XP YP l.row.toRowW d [] (fun f vs => PySem.call f vs) := by
  refine Att.attach_call most plain fun w s0 st mg mb fa o pm cd doc a us ns G Y _ _ _ main cell nums many gens => ?_
  have inK := inY w _ Y
  refine end_call inK G.T.g G.T.b G.T.builtins G.T.nolimit gens cell nums (Nat.le_trans many small) room (p1 := x) (sp := spQ (K w.params) 1 [] (lawS n)) (fun base => ?_) fun H h => say_law many h
  obtain ⟨f, fd, fn, e, _, bnd⟩ := F w mg _ inK G.T.g base
  have ef := main.symm.trans e
  cases ef
  exact ⟨fd, fn, bnd⟩
end QV

set_option Elab.async false
set_option linter.all false
set_option maxRecDepth 100000
set_option maxHeartbeats 2000000
namespace QV
open PySem L2
section
variable {X : Cx} {W : WX} {M : List Nat} {e : Expr} {x : Str} {root : Option Nat} {pa : SemP} {q : SemE} {pos p p2 : Pos}
theorem q_glob {n : Int} (hg : Gl X x) (hm : ∃ t, X.mg x = some (.int n t)) (hd : (x == ("__debug__" : Str)) = false := by decide) : QE X W [] (.Name x pos) (sC (.int n)) :=
  let ⟨t, h⟩ := hm
  q_const (pe_glob (v := .int n) hg h ⟨t, rfl⟩ hd) fun _ => .int n
end
def tyN : D → Option String
  | .non => some "NoneType"
  | .bl _ => some "bool"
  | .int _ => some "int"
  | .str _ => some "str"
  | .nd .lst _ => some "list"
  | .nd .tup _ => some "tuple"
  | .nd (.dK _) _ => some "dict"
  | _ => none
theorem tyx {K : PySem.W.Frag} {H : Hp} {x : V} {d : D} {n : String} (r : Rp K H x d) (h : tyN d = some n) : TyX K H x (.type n) := by
  cases r with
  | non => cases h; exact .base .non
  | bl b => cases h; exact .base (.bl b)
  | int i => cases h; exact .base (.int i)
  | str s => cases h; exact .base (.str s)
  | scr _ => cases h
  | exc0 _ _ => cases h
  | exc1 _ _ _ => cases h
  | tup c _ _ =>
    cases h
    exact .base (.tup c)
  | @cell a dx k vs ds hn c _ =>
    cases k with
    | lst => cases h; exact .base (.lst c.at_)
    | tup => exact absurd rfl hn
    | dK ks => cases h; exact .base (.dK c.at_)
    | dT ks => cases h
    | lkT o ks => cases h
    | lsA b => cases h
    | ins C ks => cases h
def kTup : D → Option Bool
  | .nd .tup _ => some true
  | d => (tyN d).map fun _ => false
def kLst : D → Option Bool
  | .nd .lst _ => some true
  | d => (tyN d).map fun _ => false
def kInt : D → Option Bool
  | .bl _ => some true
  | .int _ => some true
  | d => (tyN d).map fun _ => false
def kBl : D → Option Bool
  | .bl _ => some true
  | d => (tyN d).map fun _ => false
def kStr : D → Option Bool
  | .str _ => some true
  | d => (tyN d).map fun _ => false
def KiOk (T : String) (g : D → Option Bool) : Prop := ∀ (K : PySem.W.Frag) (d : D) (b : Bool), g d = some b → ∃ n, tyN d = some n ∧ PySem.W.kitOne K (.type n) (.type T) = some b
theorem ki_tup : KiOk "tuple" kTup := fun K d b h => by
  cases d with
  | nd k ds => cases k <;> cases h <;> exact ⟨_, rfl, rfl⟩
  | _ => cases h <;> exact ⟨_, rfl, rfl⟩
theorem ki_lst : KiOk "list" kLst := fun K d b h => by
  cases d with
  | nd k ds => cases k <;> cases h <;> exact ⟨_, rfl, rfl⟩
  | _ => cases h <;> exact ⟨_, rfl, rfl⟩
theorem ki_int : KiOk "int" kInt := fun K d b h => by
  cases d with
  | nd k ds => cases k <;> cases h <;> exact ⟨_, rfl, rfl⟩
  | _ => cases h <;> exact ⟨_, rfl, rfl⟩
theorem ki_bl : KiOk "bool" kBl := fun K d b h => by
  cases d with
  | nd k ds => cases k <;> cases h <;> exact ⟨_, rfl, rfl⟩
  | _ => cases h <;> exact ⟨_, rfl, rfl⟩
theorem ki_str : KiOk "str" kStr := fun K d b h => by
  cases d with
  | nd k ds => cases k <;> cases h <;> exact ⟨_, rfl, rfl⟩
  | _ => cases h <;> exact ⟨_, rfl, rfl⟩
def isG (g : D → Option Bool) (t : T) (Q : T → Prop) : Prop := ∃ b, g t.d = some b ∧ Q (.fz (.bl b))
theorem bt_bool : bootBuiltins "bool" = some (.type "bool") := by decide +kernel
theorem bt_isinstance : bootBuiltins "isinstance" = some (.builtin "isinstance") := by decide +kernel
section
variable {X : Cx} {W : WX} {M : List Nat} {e : Expr} {y : Str} {root : Option Nat} {pa : SemP} {q : SemE} {pos p p2 : Pos} {T' : String} {g : D → Option Bool}
theorem q_isi (ho : KiOk T' g) (hg : Gl X "isinstance") (hm : X.mg "isinstance" = none) (hg2 : Gl X y) (hm2 : X.mg y = none) (hv2 : bootBuiltins y = some (.type T')) (ha : QP X W M root e pa) (hn2 : y ≠ "__name__" := by decide) (hd2 : (y == ("__debug__" : Str)) = false := by decide)
    (he : starEach [e, .Name y p2] X.env = (false, eval e X.env) :: starEach [.Name y p2] X.env := by rfl) (he2 : starEach [.Name y p2] X.env = (false, eval (.Name y p2) X.env) :: starEach [] X.env := by rfl) (hpl : (backTo pos (starEach [.Name y p2] X.env)).any (·.1) = false := by rfl) :
    QE X W M (.Call (.Name "isinstance" p) [e, .Name y p2] [] pos) (s1 pa (isG g)) :=
  ⟨PE_imp (pe_callB call_isi hg hm bt_isinstance (pa_cons ha.run (pa_cons (pe_bltn (v := .ty T') hg2 hm2 hv2 rfl hn2 hd2) pa_nil he2) he) (by decide) (by decide) he hpl) fun σ H Qv ⟨n, ow, env, Q, E, s, hq, k, x⟩ =>
    ⟨n, ow, env, _, E, s, hq, fun v t pt H' ow' env' y1 s' o r ⟨b, hb, z⟩ => by
      obtain ⟨nm, h1, h2⟩ := ho X.K _ _ hb
      exact ⟨v, .ty T', _, _, b, rfl, .ty T', tyx (r.ro s').rd h1, h2, k (.bl b) (.fz (.bl b)) H' ow' env' y1 s' o (Tq.fz_.mpr (.bl b)) z⟩, x⟩⟩
end
section
variable {K : PySem.W.Frag}
end
section
variable {X : Cx} {W : WX} {M : List Nat} {e : Expr} {root : Option Nat} {pa : SemP} {pos p : Pos}
end
section
variable {X : Cx} {W : WX} {M : List Nat} {e : Expr} {x : Str} {px : Pos}
end
end QV

set_option Elab.async false
set_option linter.all false
set_option maxRecDepth 100000
set_option maxHeartbeats 2000000
namespace QV
open PySem L2
structure Pr (io : Nat) (H : Hp) (ow : Ow) (H' : Hp) (ow' : Ow) : Prop where
  go : ∀ a o, H a = some o → (ow a = .fr ∨ ow a = .base ∨ ow a = .sl io) → H' a = some o ∧ ow' a = ow a
  tp : ∀ a vs, H a = some (.tup vs) → H' a = some (.tup vs)
instance {io : Nat} {H : Hp} {ow : Ow} {H' : Hp} {ow' : Ow} : CoeFun (Pr io H ow H' ow') (fun _ => ∀ a o, H a = some o → (ow a = .fr ∨ ow a = .base ∨ ow a = .sl io) → H' a = some o ∧ ow' a = ow a) := ⟨Pr.go⟩
theorem Pr.of {io n : Nat} {M : List Nat} {H H' : Hp} {ow ow' : Ow} (h : io ∉ M) (x : Stp M n H ow H' ow') : Pr io H ow H' ow' := ⟨fun a o e q => x a o e (by rcases q with q | q | q <;> rw [q] <;> first | trivial | exact h), x.tp⟩
theorem Pr.bs {io : Nat} {H H' : Hp} {ow ow' : Ow} (x : Pr io H ow H' ow') : Same (Bs H ow) (Bs H' ow') := bs_map (fun a o e q => by
  obtain ⟨h1, h2⟩ := x a o e (.inr (.inl q))
  exact ⟨h1, h2.trans q⟩) x.tp
structure ItM (io : Nat) (K : PySem.W.Frag) (H : Hp) (ow : Ow) (J : It) (ds : List D) : Prop where
  go : ∀ (i : Nat) (d : D) (H' : Hp) (ow' : Ow), Pr io H ow H' ow' → ds[i]? = some d → J.go i H'
  yld : ∀ (i : Nat) (d : D) (H' : Hp) (ow' : Ow) (x : V) (H2 : Hp), Pr io H ow H' ow' → ds[i]? = some d → J.yld i H' x H2 → ∃ ow2, Ext H' ow' H2 ow2 ∧ Rp K (Bs H2 ow2) x d
  stop : ∀ (H' : Hp) (ow' : Ow), Pr io H ow H' ow' → J.stop ds.length H'
  sz : ds.length ≤ sizeLine
def tIo (K : PySem.W.Frag) (W : WX) (M : List Nat) (io : Nat) (q : SemI) : TI := fun σ H R => ∃ (n : Nat) (ow : Ow) (env : Env) (Q : List D → Env → Prop) (E : XQ), StOk K H ow σ env ∧ q env Q E ∧
  (∀ (J : It) (ds : List D) (H' : Hp) (ow' : Ow) (env' : Env), Stp M n H ow H' ow' → StOk K H' ow' σ env' → Out M env env' → ItM io K H' ow' J ds → Q ds env' → R J H') ∧ Xk K W M σ H n ow env E
structure QIo (X : Cx) (W : WX) (M : List Nat) (io : Nat) (tg e : Expr) (q : SemI) : Prop where
  run : PI X tg e (tIo X.K W M io q)
theorem itm_list {K : PySem.W.Frag} {H : Hp} {ow : Ow} {io : Nat} {a : Addr} {vs : List V} {ds : List D} (c : H a = some (.lst vs)) (hz : vs.length ≤ sizeLine) (r : Rps K (Bs H ow) vs ds) (eo : ow a = .sl io) : ItM io K H ow (Itl K a) ds := by
  have st : ∀ {H' : Hp} {ow' : Ow}, Pr io H ow H' ow' → SqL K H' a vs := fun x => .inl (.inl (x a _ c (.inr (.inr eo))).1)
  refine ⟨fun i d H' ow' x e => ?_, fun i d H' ow' y H2 x e q => ?_, fun H' ow' x => ⟨vs, st x, Nat.le_of_eq r.len⟩, by rw [← r.len]; exact hz⟩
  · obtain ⟨v, e1, _⟩ := r.get e
    exact ⟨vs, v, st x, e1⟩
  · obtain ⟨rfl, hy⟩ := q
    obtain ⟨v, e1, r1⟩ := r.get e
    have ev := hy vs (st x)
    rw [e1] at ev
    cases ev
    exact ⟨ow', Ext.refl, r1.mono x.bs⟩
theorem itm_listF {K : PySem.W.Frag} {H : Hp} {ow : Ow} {io : Nat} {a : Addr} {vs : List V} {ds : List D} (c : SqL K (Bs H ow) a vs) (hz : vs.length ≤ sizeLine) (r : Rps K (Bs H ow) vs ds) : ItM io K H ow (Itl K a) ds := by
  have st : ∀ {H' : Hp} {ow' : Ow}, Pr io H ow H' ow' → SqL K H' a vs := fun x => (bs_same _ _).seq (x.bs.seq c)
  refine ⟨fun i d H' ow' x e => ?_, fun i d H' ow' y H2 x e q => ?_, fun H' ow' x => ⟨vs, st x, Nat.le_of_eq r.len⟩, by rw [← r.len]; exact hz⟩
  · obtain ⟨v, e1, _⟩ := r.get e
    exact ⟨vs, v, st x, e1⟩
  · obtain ⟨rfl, hy⟩ := q
    obtain ⟨v, e1, r1⟩ := r.get e
    have ev := hy vs (st x)
    rw [e1] at ev
    cases ev
    exact ⟨ow', Ext.refl, r1.mono x.bs⟩
def iOwn (i : Nat) : SemI := fun env Q _ => match env[i]? with
  | some (some (.ow .lst ds)) => Q ds env
  | some (some (.fz (.nd .lst ds))) => Q ds env
  | _ => False
theorem i_own {X : Cx} {W : WX} {tg : Expr} {x : Str} {px : Pos} (i : Nat) (hN : X.N[i]? = some x := by rfl) (hv : Vis X.env.scope x := by first | exact Or.inl rfl | exact Or.inr (Or.inl rfl) | exact Or.inr (Or.inr rfl)) (hd : (x == ("__debug__" : Str)) = false := by decide)
    (hcd : (x == ("__classdict__" : Str)) = false := by decide) : QIo X W [] i tg (.Name x px) (iOwn i) :=
  ⟨PI_imp (pi_list (pe_var (i := i) hN hv hd hcd)) fun σ H R ⟨n, ow, env, Q, E, s, hq, k, xx⟩ => by
    unfold iOwn at hq
    split at hq
    · rename_i ds e
      obtain ⟨a, vs, e1, c, hz, r, eo⟩ := own_at s e
      exact ⟨.ref a, e1, a, rfl, ⟨vs, .inl (.inl c)⟩, k _ _ H ow env Stp.refl s Out.refl (itm_list c hz r eo) hq⟩
    · rename_i ds e
      obtain ⟨v, e1, r0⟩ := s.at_ i _ e
      obtain ⟨a, vs, rfl, c, hz, r⟩ := fz_lst r0
      exact ⟨.ref a, e1, a, rfl, ⟨vs, (bs_same _ _).seq c⟩, k _ _ H ow env Stp.refl s Out.refl (itm_listF c hz r) hq⟩
    · exact hq.elim⟩
theorem lcO_run {io : Nat} {K : PySem.W.Frag} {W : WX} {Mi Mt Me SS vs : List Nat} {qi : SemI} {g : SemG} {t : SemT} {q : SemE} (hso : io ∉ Mi ++ (Mt ++ Me)) (hs : ∀ i ∈ SS, i ∈ vs) (hv : ∀ i ∈ vs, i ∉ Mt ++ Me) {σ : L2.St} {H : Hp} {Qv : VK} (h : tQ K W (Mi ++ (Mt ++ Me)) (sLc qi g t q vs) σ H Qv) :
    tLc (tIo K W Mi io qi) (tG K SS g) (tT K W0 Mt t) (tQ K W0 Me q) vs σ H Qv := by
  obtain ⟨n, ow, env, Q, E, s, hq, k, x⟩ := h
  refine ⟨n, ow, env, _, E, s, hq, fun J ds H1 ow1 env1 y1 s1 o1 J1 hI => ?_, fun r d H' ow' env' y s' o => x r d H' ow' env' (y.mono subl (Nat.le_refl _)) s' (o.mono subl)⟩
  obtain ⟨I, i0, it, ie⟩ := hI.ex
  intro D hD
  have key : ∀ {H' : Hp} {ow' : Ow}, Stp (Mi ++ (Mt ++ Me)) n H1 ow1 H' ow' → Stp (Mi ++ (Mt ++ Me)) n H ow H' ow' := fun y => y1.trans y subl (fun _ h => h) (Nat.le_refl _) (Nat.le_refl _)
  refine ⟨fun j m H' => m = ds.length - j ∧ j ≤ ds.length ∧ ∃ ow' env' acc us, Stp (Mi ++ (Mt ++ Me)) n H1 ow1 H' ow' ∧ StOk K H' ow' σ env' ∧ Out (Mi ++ (Mt ++ Me)) env1 env' ∧ H' D = some (.lst us) ∧ ow' D = .tm n ∧ Rps K (Bs H' ow') us acc ∧ us.length ≤ j ∧ I j acc env',
    ⟨ds.length, by simp, Nat.zero_le _, Ow.put ow1 D (.tm n), env1, [], [], Stp.new hD, s1.stp0 (n := 0) (Stp.new hD), Out.refl, upd_same, put_same, .nil, Nat.le_refl _, i0⟩, ?_⟩
  rintro j m H' ⟨rfl, hj, ow', env', acc, us, y', s', o', hDl, hDo, hr, hl, ij⟩
  by_cases hlt : j < ds.length
  · have hd : ds[j]? = some ds[j] := by simp [hlt]
    refine .inr ⟨J1.go j _ H' ow' (Pr.of hso y') hd, fun H5 => ∃ ow5 env5 acc5 us5, Stp (Mi ++ (Mt ++ Me)) n H1 ow1 H5 ow5 ∧ StOk K H5 ow5 σ env5 ∧ Out (Mi ++ (Mt ++ Me)) env1 env5 ∧ H5 D = some (.lst us5) ∧ ow5 D = .tm n ∧ Rps K (Bs H5 ow5) us5 acc5 ∧ us5.length ≤ j + 1 ∧ I (j + 1) acc5 env5,
      fun H5 ⟨ow5, env5, acc5, us5, q5⟩ => ⟨ds.length - (j + 1), by omega, rfl, hlt, ow5, env5, acc5, us5, q5⟩, fun xv H2 yl => ?_⟩
    obtain ⟨ow2, ex, rx⟩ := J1.yld j _ H' ow' xv H2 (Pr.of hso y') hd yl
    have y2 : Stp (Mi ++ (Mt ++ Me)) n H' ow' H2 ow2 := ex.stp
    have s2 : StOk K H2 ow2 σ env' := s'.stp0 (n := 0) ex.stp
    refine ⟨ow2, wipeE env' vs, _, _, s2.wipe, rx, it j _ acc env' hd ij, fun σ3 env3 tc oT s3 z3 => ?_⟩
    refine ⟨wipe_tch tc hs, n + 1, ow2, env3, _, noX, s3, z3, fun b H3 ow3 env4 y3 s4 o4 z4 => ?_, xk0⟩
    have hD2 := (ex D _ hDl)
    have hD3 := y3 D _ hD2.1 (by rw [hD2.2, hDo]; exact Nat.lt_succ_self n)
    have hDo3 : ow3 D = .tm n := by rw [hD3.2, hD2.2, hDo]
    have same3 : Same (Bs H' ow') (Bs H3 ow3) := fun a o e => y3.bs a o (y2.bs a o e)
    have y23 : Stp (Mi ++ (Mt ++ Me)) n H' ow' H3 ow3 := y2.trans y3 (fun _ h => h) mem3.2.1 (Nat.le_refl _) (Nat.le_succ _)
    have outs : ∀ {e5 : Env} {H5 : Hp} {ow5 : Ow}, Out (Mt ++ Me) env3 e5 → StOk K H5 ow5 σ3 e5 → Out (Mi ++ (Mt ++ Me)) env1 (rstE env' vs e5) := fun {e5 H5 ow5} oo ss => by
      refine ⟨?_, fun i hi => ?_⟩
      · rw [rstE_len, ss.len, tc.len, wipe_length, ← s'.len, o'.len]
      · rw [← o'.eq i hi]
        by_cases hiv : i ∈ vs
        · by_cases hil : i < env'.length
          · have : ∀ {vs : List Nat}, i ∈ vs → (rstE env' vs e5)[i]? = some ((env'[i]?).getD none) := fun {vs} hm => by
              induction vs with
              | nil => simp at hm
              | cons v vs ih =>
                unfold rstE
                by_cases hv2 : v = i
                · subst hv2
                  exact List.getElem?_set_self (by rw [rstE_len, ss.len, tc.len, wipe_length, ← s'.len]; exact hil)
                · rw [List.getElem?_set_ne hv2]
                  exact ih ((List.mem_cons.mp hm).resolve_left fun z => hv2 z.symm)
            rw [this hiv]
            have e : env'[i]? = some env'[i] := by simp [hil]
            rw [e]
            rfl
          · rw [List.getElem?_eq_none (by rw [rstE_len, ss.len, tc.len, wipe_length, ← s'.len]; omega), List.getElem?_eq_none (by omega)]
        · rw [rstE_out hiv, oo.eq i fun z => hi (subr i z)]
          rw [oT.eq i fun z => hiv (hs i z)]
          exact wipeE_out hiv
    have carV : ∀ {H5 : Hp} {ow5 : Ow}, Stp (Mt ++ Me) (n + 1) H2 ow2 H5 ow5 → ∀ i ∈ vs, Car H2 H5 ow2 ow5 (.sl i) (.sl i) := fun {H5 ow5} yy i hi => yy.car (l := .sl i) (hv i hi)
    cases b with
    | false =>
      refine iteF ?_
      have y3' : Stp (Mt ++ Me) (n + 1) H2 ow2 H3 ow3 := y3.mono subl (Nat.le_refl _)
      exact ⟨ow3, _, acc, us, y'.trans y23 (fun _ h => h) (fun _ h => h) (Nat.le_refl _) (Nat.le_refl _), s2.rst s4 tc hs (carV y3'), outs (o4.mono subl) s4, hD3.1, hDo3, hr.mono same3, Nat.le_succ_of_le hl, z4.2 rfl⟩
    | true =>
      refine iteT ?_
      refine ⟨n + 1, ow3, env4, _, noX, s4, z4.1 rfl, fun v w H4 ow4 env5 y4 s5 o5 r4 z5 => ?_, xk0⟩
      split at z5
      · rename_i e
        have rv := Tq.fz_.mp r4
        have hD4 := y4 D _ hD3.1 (by rw [hDo3]; exact Nat.lt_succ_self n)
        have hDo4 : ow4 D = .tm n := by rw [hD4.2, hDo3]
        have same4 : Same (Bs H' ow') (Bs H4 ow4) := fun a o e => y4.bs a o (same3 a o e)
        have yu : Stp (Mt ++ Me) n H4 ow4 (upd H4 D (.lst (us ++ [v]))) ow4 := ⟨fun a o ea pa => by
          have ne : a ≠ D := fun z => by
            rw [z, hDo4] at pa
            exact absurd pa (Nat.lt_irrefl n)
          exact ⟨by rw [upd_ne ne]; exact ea, rfl⟩, fun a ws ea => by
          have ne : a ≠ D := fun z => by rw [z, hD4.1] at ea; cases ea
          rw [upd_ne ne]; exact ea⟩
        have y34 : Stp (Mt ++ Me) (n + 1) H2 ow2 H4 ow4 := y3.trans y4 subl subr (Nat.le_refl _) (Nat.le_refl _)
        have y25 : Stp (Mt ++ Me) n H2 ow2 (upd H4 D (.lst (us ++ [v]))) ow4 := y34.trans yu (fun _ h => h) (fun _ h => h) (Nat.le_succ _) (Nat.le_refl _)
        have s5u : StOk K (upd H4 D (.lst (us ++ [v]))) ow4 σ3 env5 := ⟨s5.len, fun i t e => by
          obtain ⟨w, e1, r⟩ := s5.at_ i t e
          refine ⟨w, e1, Car.tq ⟨yu.bs, fun a o ea eo => ?_⟩ r⟩
          have ne : a ≠ D := fun z => by
            rw [z, hDo4] at eo
            cases eo
          exact ⟨by rw [upd_ne ne]; exact ea, eo⟩⟩
        have carU : ∀ i ∈ vs, Car H2 (upd H4 D (.lst (us ++ [v]))) ow2 ow4 (.sl i) (.sl i) := fun i hi => ⟨y25.bs, fun a o ea eo => by
          obtain ⟨e1, e2⟩ := y34 a o ea (by rw [eo]; exact hv i hi)
          have ne : a ≠ D := fun z => by
            rw [z, hDo4] at e2
            rw [z] at eo
            rw [eo] at e2
            cases e2
          exact ⟨by rw [upd_ne ne]; exact e1, e2.trans eo⟩⟩
        have yall : Stp (Mi ++ (Mt ++ Me)) n H1 ow1 (upd H4 D (.lst (us ++ [v]))) ow4 := (y'.trans y2 (fun _ h => h) (fun _ h => h) (Nat.le_refl _) (Nat.le_refl _)).trans y25 (fun _ h => h) subr (Nat.le_refl _) (Nat.le_refl _)
        refine ⟨us, hD4.1, Nat.lt_of_le_of_lt hl (Nat.lt_of_lt_of_le hlt J1.sz), ow4, _, acc ++ [e], us ++ [v], yall, s2.rst s5u tc hs carU, outs (o4.trans o5 subl subr) s5, upd_same, hDo4, ?_, by rw [List.length_append]; simpa using hl, z5⟩
        exact (hr.mono fun a o e => yu.bs a o (same4 a o e)).app (.cons (rv.mono yu.bs) .nil)
      · exact z5.elim
  · have e : j = ds.length := by omega
    subst e
    exact .inl ⟨J1.stop H' ow' (Pr.of hso y'), k (.ref D) (.ow .lst acc) H' ow' env' (key y') s' (o1.trans o' subl (fun _ h => h)) ⟨_, .ow (dx := D) ⟨hDl, Nat.le_trans hl J1.sz, trivial⟩ (fun b fb => by
      have eb : b = D := fb
      rw [eb]; exact hDo) hr⟩ (ie acc env' ij)⟩
section
variable {X : Cx} {W : WX} {io : Nat} {Mi Mt Me M IO SS : List Nat} {elt tg iter e : Expr} {ifs : List Expr} {scope : Scope} {own : List (Str × Nat)} {pos spos py : Pos} {qi : SemI} {g : SemG} {t : SemT} {q : SemE} {y : Str} {i : Nat}
theorem q_lcO (hc : X.calm = true) (hN : X.N.Nodup) (hi : QIo X W Mi io tg iter qi) (ok : BlkOk X.N X.env.scope scope own)
    (hg : ∀ (s : Shared) (H : Hp) (C : Addr) (cl : List (Str × Addr)) (fp : List Addr), QG (X.blk s H scope (compEnvC scope cl C X.env) fp) SS tg g) (ht : ∀ (s : Shared) (H : Hp) (C : Addr) (cl : List (Str × Addr)) (fp : List Addr), QTs (X.blk s H scope (compEnvC scope cl C X.env) fp) W0 Mt ifs t)
    (he : ∀ (s : Shared) (H : Hp) (C : Addr) (cl : List (Str × Addr)) (fp : List Addr), QE (X.blk s H scope (compEnvC scope cl C X.env) fp) W0 Me elt q) (hso : io ∉ Mi ++ (Mt ++ Me) := by decide) (hs : ∀ i ∈ SS, i ∈ own.map (·.2) := by decide) (hv : ∀ i ∈ own.map (·.2), i ∉ Mt ++ Me := by decide)
    (hf : ∀ x, foldedSetIterable iter X.env x = pure x := by intro _; rfl) : QE X W (Mi ++ (Mt ++ Me)) (.ListComp elt [⟨tg, iter, ifs, 0⟩] scope pos) (sLc qi g t q (own.map (·.2))) :=
  ⟨PE_imp (pe_lc hc hN hi.run ok (fun s H C cl fp => (hg s H C cl fp).run) (fun s H C cl fp => (ht s H C cl fp).run) (fun s H C cl fp => (he s H C cl fp).run) hf) fun _ _ _ h => lcO_run hso hs hv h⟩
end
end QV

set_option Elab.async false
set_option linter.all false
set_option maxRecDepth 100000
set_option maxHeartbeats 2000000
namespace QV
open PySem L2
mutual
def shrt : D → Bool
  | .non => true
  | .bl _ => true
  | .int i => decide (i.natAbs < 10000000000000000000000000000000000000000)
  | .str x => x.cps.toList.all fun c => decide (c < 16 ^ 8)
  | .nd .lst ds => shrts ds
  | .nd .tup ds => shrts ds
  | _ => true
def shrts : List D → Bool
  | [] => true
  | d :: ds => shrt d && shrts ds
end
mutual
def szD : D → Nat
  | .int _ => 140
  | .str x => x.cps.size
  | .nd .lst ds => szDs ds
  | .nd .tup ds => szDs ds
  | _ => 0
def szDs : List D → Nat
  | [] => 0
  | d :: ds => szD d + 1 + szDs ds
end
theorem log2_40 {i : Int} (h : i.natAbs < 10000000000000000000000000000000000000000) : i.natAbs.log2 < 133 := by
  rcases Nat.eq_zero_or_pos i.natAbs with z | z
  · rw [z]; decide
  · exact (Nat.log2_lt (by omega)).mpr (by omega)
mutual
theorem shrt_ok : ∀ d : D, shrt d = true → d.py.leavesShort 41 = true ∧ d.py.showable = true ∧ d.py.weight ≤ szD d
  | .non, _ => ⟨rfl, rfl, by simp [D.py, PyData.weight]⟩
  | .bl _, _ => ⟨rfl, rfl, by simp [D.py, PyData.weight]⟩
  | .int i, h => by
    have h' : i.natAbs < 10000000000000000000000000000000000000000 := by simpa [shrt] using h
    refine ⟨?_, ?_, ?_⟩
    · simp only [D.py, PyData.leavesShort, decide_eq_true_eq]
      have e := int_text_length_le10 (k := 40) (by decide) (show i.natAbs < 10 ^ 40 by omega)
      have e2 : (PyData.int i).shown.length = (toString i).length := by
        rw [PyData.shown_int]
        exact ofString_length _
      rw [e2]
      exact e
    · simp only [D.py, PyData.showable, decide_eq_true_eq]
      have := log2_40 h'
      omega
    · simp only [D.py, PyData.weight, szD]
      have := log2_40 h'
      split <;> omega
  | .str x, h => by
    refine ⟨by simpa [D.py, PyData.leavesShort, shrt] using h, rfl, by simp [D.py, PyData.weight, szD]⟩
  | .scr _, _ => ⟨rfl, rfl, by simp [D.py, PyData.weight]⟩
  | .exc _ _ _ _ _, _ => ⟨rfl, rfl, by simp [D.py, PyData.weight]⟩
  | .nd .lst ds, h => by
    obtain ⟨a, b, c⟩ := shrts_ok ds (by simpa [shrt] using h)
    exact ⟨by simpa [D.py, PyData.leavesShort] using a, by simpa [D.py, PyData.showable] using b, by simpa [D.py, PyData.weight, szD] using c⟩
  | .nd .tup ds, h => by
    obtain ⟨a, b, c⟩ := shrts_ok ds (by simpa [shrt] using h)
    exact ⟨by simpa [D.py, PyData.leavesShort] using a, by simpa [D.py, PyData.showable] using b, by simpa [D.py, PyData.weight, szD] using c⟩
  | .nd (.dK _) ds, _ => ⟨rfl, rfl, by simp [D.py, PyData.weight]⟩
  | .nd (.dT _) ds, _ => ⟨rfl, rfl, by simp [D.py, PyData.weight]⟩
  | .nd (.lkT _ _) ds, _ => ⟨rfl, rfl, by simp [D.py, PyData.weight]⟩
  | .nd (.lsA _) ds, _ => ⟨rfl, rfl, by simp [D.py, PyData.weight]⟩
  | .nd (.ins _ _) ds, _ => ⟨rfl, rfl, by simp [D.py, PyData.weight]⟩
theorem shrts_ok : ∀ ds : List D, shrts ds = true → PyData.leavesShortAll 41 (Dspy ds) = true ∧ PyData.showableAll (Dspy ds) = true ∧ PyData.weightAll (Dspy ds) ≤ szDs ds
  | [], _ => ⟨rfl, rfl, by simp [Dspy, PyData.weightAll]⟩
  | d :: ds, h => by
    have h' : shrt d = true ∧ shrts ds = true := by simpa [shrts] using h
    obtain ⟨a, b, c⟩ := shrt_ok d h'.1
    obtain ⟨a', b', c'⟩ := shrts_ok ds h'.2
    exact ⟨by simp [Dspy, PyData.leavesShortAll, a, a'], by simp [Dspy, PyData.showableAll, b, b'], by simp only [Dspy, PyData.weightAll, szDs]; omega⟩
end
theorem shw_of {d : D} (h : shrt d = true) (hz : szD d ≤ 262144) : shwD d := by
  obtain ⟨a, b, c⟩ := shrt_ok d h
  refine ⟨b, Nat.le_trans (PyData.shown_le 41 (by decide) _ a) ?_⟩
  have h1 : (41 + 2) * d.py.weight + 41 ≤ 43 * 262144 + 41 := by omega
  exact Nat.le_trans h1 (by rw [sizeLine_eq]; decide)
theorem shrts_all : ∀ {ds : List D}, (∀ d, d ∈ ds → shrt d = true) → shrts ds = true
  | [], _ => rfl
  | d :: ds, h => by simp [shrts, h d (by simp), shrts_all (ds := ds) fun e he => h e (by simp [he])]
theorem szDs_le {k : Nat} : ∀ {ds : List D}, (∀ d, d ∈ ds → szD d ≤ k) → szDs ds ≤ ds.length * (k + 1)
  | [], _ => by simp [szDs]
  | d :: ds, h => by
    have h1 := h d (by simp)
    have h2 := szDs_le (ds := ds) fun e he => h e (by simp [he])
    simp only [szDs, List.length_cons, Nat.succ_mul]
    omega
theorem pls_all {n : Nat} : ∀ {ds : List D}, (∀ d, d ∈ ds → d.pl n = true) → Dspl n ds = true
  | [], _ => rfl
  | d :: ds, h => by simp [Dspl, h d (by simp), pls_all (ds := ds) fun e he => h e (by simp [he])]
theorem pl_lst {n : Nat} {ds : List D} (h : ∀ d, d ∈ ds → d.pl n = true) : (D.nd .lst ds).pl (n + 1) = true := by rw [D.pl]; exact pls_all h
theorem pl_tup {n : Nat} {ds : List D} (h : ∀ d, d ∈ ds → d.pl n = true) : (D.nd .tup ds).pl (n + 1) = true := by rw [D.pl]; exact pls_all h
theorem eq_nil {ds : List D} : eqD (.nd .lst ds) (.nd .lst []) = ds.isEmpty := by
  cases ds <;> simp [eqD, eqDs]
end QV

set_option Elab.async false
set_option linter.all false
set_option maxRecDepth 100000
set_option maxHeartbeats 2000000
namespace QV
open PySem PySem.Spec PyProof.Rows L2
section
variable {X : Cx} {e : Expr} {es : List Expr} {ta : TA} {b : Str} {S : Addr} {p1 p2 pos : Pos}
theorem pe_binit {pl : Sem Bool} (hg : Gl X b) (hm : X.mg b = some (.ref S)) (h1 : PySem.W.specialIn X.K (.ref S) "__getattribute__" = some (some (.builtin "type.__getattribute__"))) (h2 : PySem.W.readsIn X.K S (.type "type") = true)
    (h3 : PySem.W.findCls X.K (.ref S) (.type "type") "__init__" = some (.val (.builtin "ValueError.__init__"))) (ha : PA X (e :: es) ta)
    (hc : eval (.Call (.Attribute (.Name b p1) "__init__" p2) (e :: es) [] pos) X.env = (do
      let own ← eval (.Name b p1) X.env
      standAt p2.atName
      let (init, self) ← holding [own] (getMethod own "__init__" pl)
      callWith pos init self (backTo pos (starEach (e :: es) X.env)) (backToKw pos (keywordEach [] X.env))) := by rfl)
    (hd : (b == ("__debug__" : Str)) = false := by decide) (he : starEach (e :: es) X.env = (false, eval e X.env) :: starEach es X.env := by rfl) (hpl : (backTo pos (starEach es X.env)).any (·.1) = false := by rfl) :
    PE X (.Call (.Attribute (.Name b p1) "__init__" p2) (e :: es) [] pos) (tVeI X.K ta) := by
  constructor
  intro pins s σ H Q I h
  refine PySem.W.methodCall_KW (ld_glob I hg hm ?_ hd) hc
  refine PySem.W.method_cls I.kIn h1 (PySem.W.cls_value I.kIn h2 h3 (by decide +kernel) ?_)
  show wpAny _ _ (callWith pos (Value.builtin "ValueError.__init__") [] (backTo pos (starEach (e :: es) X.env)) []) _ _ _
  refine PyProof.Rows.callWith_method1 (thn (ha.run pos pins _ σ H _ (I.tok _) h) fun us s1 ⟨vs, H1, J, rel, a, C, ws, ev, few, T, at0, q⟩ => ?_) he hpl
  cases ev
  cases rel with
  | cons ra rest =>
    cases (show _ = Value.ref a from ra)
    refine oinit_ok T J at0 ?_ fun s2 J2 => ⟨.non, H1, J2, rfl, q⟩
    have := Paired.length rest
    rw [sizeLine_eq]
    omega
end
section
variable {X : Cx}
end
def spIni (K : PySem.W.Frag) : Sp := fun vs H Q _ => ∃ a C, vs = [.ref a] ∧ OexC K C ∧ H a = some (exo a C none) ∧ Q .non H
structure Bare (X : Cx) (k : Nat) (x : Str) (C : Addr) : Prop where
  mg : X.mg x = some (.ref C)
  ex : ∃ fI fd, OexC X.K C ∧ PySem.W.findIn X.K (.ref C) "__init__" = some (some (.ref fI)) ∧ PySem.W.typeIn X.K (.ref fI) = some (.type "function") ∧ FnOk X.prog X.w X.K X.mg X.base (L2.CX X.prog X.w) k fI fd ["self"] (spIni X.K) ∧ Binds X.K fd ["self"] []
def spIni1 (K : PySem.W.Frag) (f : Str) : Sp := fun vs H Q _ => ∃ a C y, vs = [.ref a, y] ∧ OexC K C ∧ H a = some (exo a C none) ∧ PySem.W.findIn K (.ref C) f = some none ∧ ∀ dx, H dx = none → dx ≠ a → Q .non (upd (upd H dx (exd dx [(f, y)])) a (exo a C (some dx)))
structure Bare1 (X : Cx) (k : Nat) (x : Str) (C : Addr) (f : Str) (ps : List Str) : Prop where
  mg : X.mg x = some (.ref C)
  no : PySem.W.findIn X.K (.ref C) f = some none
  ex : ∃ fI fd, OexC X.K C ∧ PySem.W.findIn X.K (.ref C) "__init__" = some (some (.ref fI)) ∧ PySem.W.typeIn X.K (.ref fI) = some (.type "function") ∧ FnOk X.prog X.w X.K X.mg X.base (L2.CX X.prog X.w) k fI fd ps (spIni1 X.K f) ∧ Binds X.K fd ps []
theorem del_two {H : Hp} {a d : Addr} {o1 o2 o3 o4 : HO} (h : H a = none) (ne : d ≠ a) : upd (del (upd (upd (upd H a o1) d o2) a o3) a) d o4 = upd H d o4 := by
  funext b
  rcases Classical.em (b = d) with z | z
  · subst z
    rw [upd_same, upd_same]
  · rw [upd_ne z, upd_ne z]
    rcases Classical.em (b = a) with y | y
    · subst y
      rw [del_same, h]
    · rw [del_ne y, upd_ne y, upd_ne z, upd_ne y]
theorem s_raise1 {X : Cx} {W : WX} {IO M : List Nat} {k : Nat} {x f : Str} {ps : List Str} {C : Addr} {e : Expr} {q : SemE} {p cpos pos : Pos} (B : Bare1 X k x C f ps) (tk : L2.Takes X W) (hc : X.calm = true) (room : Room (k + 1) X.A) (hg : Gl X x) (he : QE X W M e q)
    (hx : Passes (L2.CX X.prog X.w) X (fun _ _ _ => False)) (hdb : (x == ("__debug__" : Str)) = false := by decide) (hs : starEach [e] X.env = (false, eval e X.env) :: starEach [] X.env := by rfl) (hpl : (backTo cpos (starEach [] X.env)).any (·.1) = false := by rfl) :
    QS X W IO (.Raise (some (.Call (.Name x p) [e] [] cpos)) none pos) (fun D env => q env (fun t env1 => match t with
      | .fz d => D.ex ⟨C, [f], [d]⟩ env1
      | _ => False) D.ex) := by
  obtain ⟨hm, no, fI, fd, T, iC, tI, Fi, bnd⟩ := B
  refine ⟨PS_imp (ps_raise hc tk (pmk_oex T iC tI Fi room bnd .nil hx hg hm (a_cons he a_nil hs).run hdb hs hpl)) fun D σ H ⟨ow, env, De, s, hq, kk⟩ => ?_⟩
  refine tA_data (m := 0) (Q := fun ds env1 => match ds with | [d] => De.ex ⟨C, [f], [d]⟩ env1 | _ => False) rfl s (E := De.ex) ?_ kk.ex.xk ?_
  · unfold aCons
    refine cast (congrArg (fun z => q env z De.ex) ?_) hq
    funext t env1
    cases t <;> rfl
  · intro vs ds H1 ow1 env1 y s1 o l1 r z
    split at z
    · rename_i d
      match vs, l1 with
      | [v], _ =>
        refine ⟨show 1 ≤ 1000 by decide, fun a ha => ⟨a, C, v, rfl, T, upd_same, no, fun dx hdx ne => ?_⟩⟩
        have hn : H1 dx = none := (upd_ne ne).symm.trans hdx
        refine ⟨rfl, dx, [(f, v)], upd_same, ?_, hn, ?_⟩
        · rw [upd_ne ne, upd_same]
        · rw [del_two ha ne]
          have yn : Stp [] 0 H1 ow1 (upd H1 dx (.xd [(f, v)])) (Ow.put ow1 dx .base) := Stp.new hn
          exact kk.ex ⟨C, [f], [d]⟩ (some dx) σ _ _ env1 (y.fs.trans yn.fs) Ios.refl (s1.stp0 yn) ⟨[v], by rw [bs_of put_same]; exact upd_same, rfl, r.mono yn.bs⟩ z
    · exact z.elim
theorem passes0 {X : Cx} : Passes (L2.CX X.prog X.w) X (fun _ _ _ => False) := fun _ _ _ _ _ _ _ h => by
  obtain ⟨_, _, _, _, _, _, _, _, _, _, _, _, z⟩ := h
  exact z.elim
end QV

set_option Elab.async false
set_option linter.all false
set_option maxRecDepth 100000
set_option maxHeartbeats 2000000
namespace PySem.W
open PySem PySem.Spec PySem.Calls PyProof.Rows
section
variable {prog : Program} {w : World} {A : Around} {E : Value → Shared → Prop} {s : Shared} {K : Frag} {x D : Addr} {ox : Obj} {od : Option Obj}
end
end PySem.W
namespace QV
open PySem PySem.Spec PyProof.Rows L2

structure Xt (K : PySem.W.Frag) (mg : Str → Option Value) (ca : Str → Addr) (ns ts cs fs : List Str) (isa : Str → Str → Bool) : Prop where
  mg : ∀ x, x ∈ ts ∨ x ∈ cs → mg x = some (.ref (ca x))
  exc : ∀ x, x ∈ ns → ExcC K (ca x)
  kit : ∀ x, x ∈ ns → ∀ y, y ∈ ts → PySem.W.kitOne K (.ref (ca x)) (.ref (ca y)) = some (isa x y)
  kitV : ∀ x, x ∈ ns → PySem.W.kitOne K (.ref (ca x)) (.type "ValueError") = some true
  exm : ∀ x, x ∈ ns → ∀ y, y ∈ cs → PySem.W.exmOne K (.ref (ca x)) (.ref (ca y)) = some (isa x y)
  no : ∀ x, x ∈ ns → ∀ f, f ∈ fs → PySem.W.findIn K (.ref (ca x)) f = some none
def Pn (X : Cx) (a C : Addr) (d : Option Addr) : Prop := ∃ oe : Obj, (a, oe) ∈ X.pn ∧ Zc (.ref C) d oe ∧ ∃ vs, oe.data = .fields vs
section
variable {X : Cx} {W : WX} {M : List Nat} {a C : Addr} {d : Option Addr} {e ec : Expr} {root : Option Nat} {pa : SemP} {p pos cp : Pos} {ca : Str → Addr} {ns ts cs fs : List Str} {isa : Str → Str → Bool} {y f : Str}
inductive Cnames (X : Cx) (ts : List Str) : List Expr → List Str → Prop
  | nil : Cnames X ts [] []
  | cons {y : Str} {es : List Expr} {ys : List Str} (cp : Pos) : y ∈ ts → Gl X y → (y == ("__debug__" : Str)) = false → starEach (.Name y cp :: es) X.env = (false, eval (.Name y cp) X.env) :: starEach es X.env → Cnames X ts es ys → Cnames X ts (.Name y cp :: es) (y :: ys)
theorem zip_look {K : PySem.W.Frag} {B : Hp} {f : Str} {u : D} : ∀ {ks : List Str} {vs : List V} {ds : List D}, ks.length = vs.length → Rps K B vs ds → (ks.zip ds).lookup f = some u → ∃ v, (ks.zip vs).lookup f = some v ∧ Rp K B v u
  | [], _, _, _, _, h => by simp at h
  | _ :: _, _, _, l, .nil, h => by simp at l
  | k :: ks, v :: vs, d :: ds, l, .cons r s, h => by
    rw [List.zip_cons_cons, List.lookup_cons] at h ⊢
    split at h
    · cases h; exact ⟨v, rfl, r⟩
    · exact zip_look (by simpa using l) s h
end
section
variable {P : Program} {w : World} {K : PySem.W.Frag} {mg : Str → Option Value} {base : Heap}
structure FnP (P : Program) (w : World) (K : PySem.W.Frag) (mg : Str → Option Value) (base : Heap) (k : Nat) (f : Addr) (fd : FuncData) (ps : List Str) (sp : Addr → Addr → Option Addr → Sp) : Prop where
  len : ∀ a C d vs H Q E, sp a C d vs H Q E → vs.length = ps.length
  run : ∀ (A : Around) (outer : List PySem.Env) (s : Shared) (H : Hp) (args : Args) (us : List Value) (vs : List V) (Q : VK) (p : Addr × Obj) (C : Addr) (d : Option Addr), L2H.RoomH k A → A.guards = some [] → L2H.PinOk outer H s p → Zc (.ref C) d p.2 → (∃ ws, p.2.data = .fields ws) → Env0 P w K mg base A outer s H → BindsTo s fd args (ps.zip us) → Vals vs us → sp p.1 C d vs H Q (fun _ _ _ => False) →
    codeAny (model P w) A (.call (.ref f) args) (CR (fun _ _ _ _ _ _ => False) outer P w H s Q fun _ _ _ => False) s
abbrev SemX := List D → (D → Prop) → Prop
end
section
variable {X : Cx} {W : WX} {M : List Nat} {k : Nat} {f : Addr} {fd : FuncData} {ps : List Str} {spec : SemX} {ks : List (Option Nat)} {e : Expr} {es : List Expr} {qs : SemD} {x : Str} {p pos : Pos} {a C : Addr} {d : Option Addr}
end
end QV

set_option Elab.async false
set_option linter.all false
set_option maxRecDepth 100000
set_option maxHeartbeats 2000000
namespace QV
open PySem PySem.Spec PyProof.Rows L2
def inCls : Stmt → Nat → Stmt
  | .ClassDef (body := b) .., j => b.getD j (.Pass ⟨0, 0, 0, 0⟩)
  | _, _ => .Pass ⟨0, 0, 0, 0⟩
section
variable {P : Program} {w : World} {K : PySem.W.Frag} {mg : Str → Option Value} {base : Heap}
structure BareG (P : Program) (w : World) (K : PySem.W.Frag) (mg : Str → Option Value) (base : Heap) (k : Nat) (x : Str) (C : Addr) : Prop where
  at_ : mg x = some (.ref C)
  ex : ∃ fI fd, OexC K C ∧ PySem.W.findIn K (.ref C) "__init__" = some (some (.ref fI)) ∧ PySem.W.typeIn K (.ref fI) = some (.type "function") ∧ FnOk P w K mg base (L2.CX P w) k fI fd ["self"] (spIni K) ∧ Binds K fd ["self"] []
structure BareG1 (P : Program) (w : World) (K : PySem.W.Frag) (mg : Str → Option Value) (base : Heap) (k : Nat) (x : Str) (C : Addr) (f : Str) (ps : List Str) : Prop where
  at_ : mg x = some (.ref C)
  no : PySem.W.findIn K (.ref C) f = some none
  ex : ∃ fI fd, OexC K C ∧ PySem.W.findIn K (.ref C) "__init__" = some (some (.ref fI)) ∧ PySem.W.typeIn K (.ref fI) = some (.type "function") ∧ FnOk P w K mg base (L2.CX P w) k fI fd ps (spIni1 K f) ∧ Binds K fd ps []
structure BaseC (K : PySem.W.Frag) (mg : Str → Option Value) (b : Str) : Prop where
  ex : ∃ S, mg b = some (.ref S) ∧ PySem.W.specialIn K (.ref S) "__getattribute__" = some (some (.builtin "type.__getattribute__")) ∧ PySem.W.readsIn K S (.type "type") = true ∧ PySem.W.findCls K (.ref S) (.type "type") "__init__" = some (.val (.builtin "ValueError.__init__"))
theorem kit_sub {x y : Addr} {b : Bool} (h1 : PySem.W.hasDictIn K y = true) (h2 : PySem.W.typeIn K (.ref y) = some (.type "type")) (h3 : PySem.W.subIn K (.ref x) (.ref y) = some b) (hs : PySem.W.subIn K (.ref y) (.ref y) = some true) : PySem.W.kitOne K (.ref x) (.ref y) = some b := by
  unfold PySem.W.kitOne
  by_cases e : (Value.ref x == Value.ref y) = true
  · rw [if_pos e]
    have : x = y := Value.ref.inj (beq_iff_eq.mp e)
    subst this
    rw [h3] at hs
    exact hs.symm
  · rw [if_neg e]
    obtain ⟨cd, hc, _⟩ := PySem.W.any_some h1
    have e2 : ((PySem.W.clsIn K y).isSome && PySem.W.typeIn K (.ref y) == some (.type "type")) = true := by rw [hc, h2] <;> rfl
    show (if ((PySem.W.clsIn K y).isSome && PySem.W.typeIn K (.ref y) == some (.type "type")) = true then PySem.W.subIn K (.ref x) (.ref y) else none) = some b
    rw [if_pos e2]
    exact h3
theorem kit_val {x : Addr} (h : PySem.W.subIn K (.ref x) (.type "ValueError") = some true) : PySem.W.kitOne K (.ref x) (.type "ValueError") = some true := by
  unfold PySem.W.kitOne
  have e : ¬ (Value.ref x == Value.type "ValueError") = true := fun z => by cases (beq_iff_eq.mp z)
  rw [if_neg e]
  show (if PySem.W.kitMeta "ValueError" = true then PySem.W.subIn K (.ref x) (.type "ValueError") else none) = some true
  rw [if_pos (by decide +kernel)]
  exact h
theorem all_in {α : Type} {p : α → Prop} {a : α} {l : List α} (h : p a) (t : ∀ x, x ∈ l → p x) : ∀ x, x ∈ a :: l → p x := fun x hx => by
  rcases List.mem_cons.mp hx with rfl | hx
  · exact h
  · exact t x hx
theorem no_in {α : Type} {p : α → Prop} : ∀ x, x ∈ ([] : List α) → p x := fun _ h => nomatch h
theorem fun_at {x qual : Str} {st : Stmt} {f : Addr} {ps : List Str} {oc : Value} {od an : Option Addr} {osl : Array (Option Value)} {kV doc pm cdv ct : Value}
    (l : K.lookup f = some ⟨oc, od, .func (PySem.W.fnOf x qual (defArgs st) (defBody st) (defScope st) .none kV doc pm an cdv ct), osl⟩) (c : PySem.W.codeIn K cdv qual = true) (k : PySem.W.keepIn K (.ref f) = true)
    (hb : ∀ (kV doc pm : Value) (an : Option Addr) (cdv ct : Value) (us : List Value), us.length = ps.length → bindArgs (PySem.W.fnOf x qual (defArgs st) (defBody st) (defScope st) .none kV doc pm an cdv ct) ⟨us, []⟩ = pure (ps.zip us)) : ∃ fd, Fun K x qual st f fd ∧ Binds K fd ps [] :=
  have F := fun_mk (x := x) (qual := qual) (st := st) l c k
  ⟨_, F, F.binds hb⟩
end
end QV

set_option Elab.async false
set_option linter.all false
set_option maxRecDepth 100000
set_option maxHeartbeats 2000000
namespace QV
open PySem PySem.Spec PyProof.Rows L2
section
variable {X : Cx} {W : WX} {Ma Ml : List Nat} {e o : Expr} {ra rb : Option Nat} {pa pb : SemP} {apos pos : Pos}
end
end QV

set_option Elab.async false
set_option linter.all false
set_option maxRecDepth 100000
set_option maxHeartbeats 2000000
namespace L2
open PySem PySem.Spec PyProof.Rows
section
variable {prog : Program} {w : World} {A : Around} {E : Value → Shared → Prop} {s : Shared} {l : Addr} {xs : Array (Int × Tok)} {its : List Value} {ns : List Int}
end
end L2
namespace QV
open PySem L2
section
variable {K : PySem.W.Frag} {H : Hp} {ow : Ow}
end
section
variable {X : Cx} {W : WX} {M : List Nat} {e : Expr} {q : SemE} {pos p : Pos}
end
section
variable {K : PySem.W.Frag}
end
end QV

set_option Elab.async false
set_option linter.all false
set_option maxRecDepth 100000
set_option maxHeartbeats 2000000
namespace QV
open PySem L2

def T.kids : T → Option (Kd × List T)
  | .ow k ds => some (k, ds.map .fz)
  | .nd k ts => some (k, ts)
  | .fz _ => none
mutual
def T.put : T → List Nat → T → T
  | _, [], u => u
  | .nd k ts, j :: p, u => .nd k (Tput ts j p u)
  | t, _ :: _, _ => t
def Tput : List T → Nat → List Nat → T → List T
  | [], _, _, _ => []
  | t :: ts, 0, p, u => T.put t p u :: ts
  | t :: ts, j + 1, p, u => t :: Tput ts j p u
end
theorem put_nil {t u : T} : T.put t [] u = u := by cases t <;> rfl
theorem put_cons {k : Kd} {ts : List T} {j : Nat} {p : List Nat} {u : T} : T.put (.nd k ts) (j :: p) u = .nd k (Tput ts j p u) := rfl
theorem Tput_succ {t : T} {ts : List T} {j : Nat} {p : List Nat} {u : T} : Tput (t :: ts) (j + 1) p u = t :: Tput ts j p u := rfl
theorem Tput_set {p : List Nat} {u t : T} : ∀ {ts : List T} {j : Nat}, ts[j]? = some t → Tput ts j p u = ts.set j (T.put t p u)
  | [], j, h => by simp at h
  | t' :: ts, 0, h => by simp at h; subst h; rfl
  | t' :: ts, j + 1, h => by rw [Tput_succ, List.set_cons_succ, Tput_set (by simpa using h)]
theorem put_one {k : Kd} {ts : List T} {j : Nat} {t u : T} (h : ts[j]? = some t) : T.put (.nd k ts) ([] ++ [j]) u = .nd k (ts.set j u) := by
  show T.nd k (Tput ts j [] u) = _
  rw [Tput_set h, put_nil]
section
variable {K : PySem.W.Frag} {H H' : Hp} {ow ow' : Ow} {l : Lab}
theorem tps_fz : ∀ {vs : List V} {ds : List D}, Rps K (Bs H ow) vs ds → ∃ S, Tps K H ow l vs (ds.map .fz) S ∧ ∀ b, ¬ S b
  | _, _, .nil => ⟨_, .nil, fun _ h => h⟩
  | _, _, .cons r s => by
    obtain ⟨S, h1, h2⟩ := tps_fz s
    exact ⟨_, .cons (.fz r) h1 fun _ h => h.elim, fun b h => h.elim id (h2 b)⟩
theorem tps_data : ∀ {vs : List V} {ds : List D} {S : Addr → Prop}, Tps K H ow l vs (ds.map .fz) S → Rps K (Bs H ow) vs ds ∧ ∀ b, ¬ S b
  | _, [], _, .nil => ⟨.nil, fun _ h => h⟩
  | _, d :: ds, _, .cons r s _ => by
    cases r with
    | fz r =>
      obtain ⟨h1, h2⟩ := tps_data s
      exact ⟨.cons r h1, fun b h => h.elim id (h2 b)⟩
theorem Tp.kid {v : V} {t : T} {St : Addr → Prop} {k : Kd} {ts : List T} (h : Tp K H ow l v t St) (e : t.kids = some (k, ts)) : ∃ a dx vs S, v = .ref a ∧ Cell H a dx k vs ∧ (∀ b, Foot a dx k b → ow b = l ∧ ¬ S b) ∧ Tps K H ow l vs ts S ∧ ∀ b, St b ↔ (Foot a dx k b ∨ S b) := by
  cases h with
  | fz _ => cases e
  | ow c f r =>
    cases e
    obtain ⟨S, h1, h2⟩ := tps_fz (l := l) r
    exact ⟨_, _, _, S, rfl, c, fun b fb => ⟨f b fb, h2 b⟩, h1, fun b => ⟨.inl, fun z => z.elim id fun z => (h2 b z).elim⟩⟩
  | nd c f r =>
    cases e
    exact ⟨_, _, _, _, rfl, c, f, r, fun b => .rfl⟩
theorem set_self {α : Type} : ∀ {l : List α} {j : Nat} {a : α}, l[j]? = some a → l.set j a = l
  | [], _, _, h => by simp at h
  | x :: l, 0, a, h => by simp at h; subst h; rfl
  | x :: l, j + 1, a, h => by rw [List.set_cons_succ, set_self (by simpa using h)]
theorem Tps.put : ∀ {vs : List V} {ts : List T} {S : Addr → Prop} {j : Nat} {v1 : V} {t1 : T}, Tps K H ow l vs ts S → vs[j]? = some v1 → ts[j]? = some t1 → ∃ S1, Tp K H ow l v1 t1 S1 ∧ (∀ b, S1 b → S b) ∧
    ∀ (H' : Hp) (ow' : Ow) (v2 : V) (t2 : T) (S2 : Addr → Prop), Same (Bs H ow) (Bs H' ow') → (∀ b o, S b → ¬ S1 b → H b = some o → ow b = l → H' b = some o ∧ ow' b = l) → Tp K H' ow' l v2 t2 S2 → (∀ b, S2 b → S b → S1 b) →
      ∃ S', Tps K H' ow' l (vs.set j v2) (ts.set j t2) S' ∧ ∀ b, S' b → (S b ∧ ¬ S1 b) ∨ S2 b
  | _, _, _, _, _, _, .nil, e, _ => by simp at e
  | _, _, _, 0, v1, t1, .cons (S1 := Sa) (S2 := Sb) r s d, e, e' => by
    simp at e e'
    subst e e'
    refine ⟨Sa, r, fun b h => .inl h, fun H' ow' v2 t2 S2 bs fr r2 ds => ?_⟩
    have s' := s.car (l' := l) bs fun b o hb e1 e2 => fr b o (.inr hb) (fun z => d b z hb) e1 e2
    exact ⟨_, .cons r2 s' fun b h2 hb => d b (ds b h2 (.inr hb)) hb, fun b h => h.elim .inr fun hb => .inl ⟨.inr hb, fun z => d b z hb⟩⟩
  | _, _, _, j + 1, v1, t1, .cons (S1 := Sa) (S2 := Sb) r s d, e, e' => by
    obtain ⟨S1, r1, sub, go⟩ := Tps.put (j := j) s (by simpa using e) (by simpa using e')
    refine ⟨S1, r1, fun b h => .inr (sub b h), fun H' ow' v2 t2 S2 bs fr r2 ds => ?_⟩
    obtain ⟨S', h1, h2⟩ := go H' ow' v2 t2 S2 bs (fun b o hb n e1 e2 => fr b o (.inr hb) n e1 e2) r2 fun b hb hs => ds b hb (.inr hs)
    have r' := r.car (l' := l) bs fun b o hb e1 e2 => fr b o (.inl hb) (fun z => d b hb (sub b z)) e1 e2
    refine ⟨_, .cons r' h1 fun b ha hb => ?_, fun b h => ?_⟩
    · rcases h2 b hb with z | z
      · exact d b ha z.1
      · exact d b ha (sub b (ds b z (.inl ha)))
    · rcases h with z | z
      · exact .inl ⟨.inl z, fun y => d b z (sub b y)⟩
      · rcases h2 b z with y | y
        · exact .inl ⟨.inr y.1, y.2⟩
        · exact .inr y
theorem Sub.put {v0 v : V} {t0 t : T} {pt : List Nat} (s : Sub K H ow l v0 t0 pt v t) : ∀ {S0 : Addr → Prop}, Tp K H ow l v0 t0 S0 → ∃ St, Tp K H ow l v t St ∧ (∀ b, St b → S0 b) ∧
    ∀ (H' : Hp) (ow' : Ow) (t' : T) (S2 : Addr → Prop), Same (Bs H ow) (Bs H' ow') → (∀ b o, S0 b → ¬ St b → H b = some o → ow b = l → H' b = some o ∧ ow' b = l) → Tp K H' ow' l v t' S2 → (∀ b, S2 b → S0 b → St b) →
      ∃ S', Tp K H' ow' l v0 (t0.put pt t') S' ∧ ∀ b, S' b → (S0 b ∧ ¬ St b) ∨ S2 b := by
  induction s with
  | nil =>
    intro S0 r
    refine ⟨S0, r, fun _ h => h, fun H' ow' t' S2 bs fr r2 ds => ⟨S2, ?_, fun b h => .inr h⟩⟩
    rw [put_nil]
    exact r2
  | @cons a dx k vs ts j p v1 v t1 t c f e1 e2 _ ih =>
    intro S0 r
    cases r with
    | @nd a dx' k vs' ts S c' f' r' =>
      have e := c'.inj c
      subst e
      obtain ⟨S1, r1, sub, go⟩ := r'.put e1 e2
      obtain ⟨St, rt, sub2, go2⟩ := ih r1
      refine ⟨St, rt, fun b h => .inr (sub b (sub2 b h)), fun H' ow' t' S2 bs fr r2 ds => ?_⟩
      obtain ⟨S3, r3, h3⟩ := go2 H' ow' t' S2 bs (fun b o hb n q1 q2 => fr b o (.inr (sub b hb)) n q1 q2) r2 fun b hb hs => ds b hb (.inr (sub b hs))
      obtain ⟨S4, r4, h4⟩ := go H' ow' v1 (T.put t1 p t') S3 bs (fun b o hb n q1 q2 => fr b o (.inr hb) (fun z => n (sub2 b z)) q1 q2) r3 fun b hb hs => by
        rcases h3 b hb with z | z
        · exact z.1
        · exact sub2 b (ds b z (.inr hs))
      rw [set_self e1] at r4
      have nS : ∀ b, Foot a dx' k b → ¬ St b := fun b fb z => (f' b fb).2 (sub b (sub2 b z))
      have cc : Cell H' a dx' k vs' := c'.at_same fun b o fb q => (fr b o (.inl fb) (nS b fb) q (f' b fb).1).1
      refine ⟨fun b => Foot a dx' k b ∨ S4 b, ?_, ?_⟩
      · rw [put_cons, Tput_set e2]
        refine .nd cc (fun b fb => ⟨?_, fun z => ?_⟩) r4
        · obtain ⟨o, q⟩ := c'.there fb
          exact (fr b o (.inl fb) (nS b fb) q (f' b fb).1).2
        · rcases h4 b z with y | y
          · exact (f' b fb).2 y.1
          · rcases h3 b y with w | w
            · exact (f' b fb).2 (sub b w.1)
            · exact nS b fb (ds b w (.inl fb))
      · intro b h
        rcases h with z | z
        · exact .inl ⟨.inl z, nS b z⟩
        · rcases h4 b z with y | y
          · exact .inl ⟨.inr y.1, fun w => y.2 (sub2 b w)⟩
          · rcases h3 b y with w | w
            · exact .inl ⟨.inr (sub b w.1), w.2⟩
            · exact .inr w
theorem Sub.snoc {v0 : V} {t0 : T} {pt : List Nat} {a dx : Addr} {k : Kd} {vs : List V} {ts : List T} {j : Nat} {v1 : V} {t1 : T} (s : Sub K H ow l v0 t0 pt (.ref a) (.nd k ts)) (c : Cell H a dx k vs) (f : ∀ b, Foot a dx k b → ow b = l) (e1 : vs[j]? = some v1) (e2 : ts[j]? = some t1) : Sub K H ow l v0 t0 (pt ++ [j]) v1 t1 := by
  generalize hv : V.ref a = v at s
  generalize ht : T.nd k ts = t at s
  induction s with
  | nil => subst hv ht; exact .cons c f e1 e2 .nil
  | cons c' f' g1 g2 _ ih => exact .cons c' f' g1 g2 (ih hv ht)
theorem put_run {σ : L2.St} {env : Env} {i m : Nat} {v0 : V} {t0 t : T} {pt : List Nat} {v : V} {k : Kd} {ts : List T} (s : StOk K H ow σ env) (e1 : σ[i]? = some (some v0)) (e2 : env[i]? = some (some t0)) (sb : Sub K H ow (.sl i) v0 t0 pt v t) (hk : t.kids = some (k, ts)) (nt : k ≠ .tup) :
    ∃ a dx vs S, v = .ref a ∧ Cell H a dx k vs ∧ Tps K H ow (.sl i) vs ts S ∧ ∀ o : HO, Same (Bs H ow) (Bs (upd H a o) (Ow.mv ow (.tm m) (.sl i))) ∧ Tps K (upd H a o) (Ow.mv ow (.tm m) (.sl i)) (.sl i) vs ts S ∧
      (∀ w u, Tq K H ow (.tm m) w u → ∃ Sw, Tp K (upd H a o) (Ow.mv ow (.tm m) (.sl i)) (.sl i) w u Sw ∧ ∀ b, Sw b → ¬ S b ∧ ¬ Foot a dx k b ∧ ow b = .tm m) ∧
      (∀ b, Foot a dx k b → Ow.mv ow (.tm m) (.sl i) b = .sl i ∧ ¬ S b) ∧
      ∀ (t' : T) (S' : Addr → Prop), Tp K (upd H a o) (Ow.mv ow (.tm m) (.sl i)) (.sl i) (.ref a) t' S' → (∀ b, S' b → Foot a dx k b ∨ S b ∨ ow b = .tm m) →
        Stp [i] m H ow (upd H a o) (Ow.mv ow (.tm m) (.sl i)) ∧ StOk K (upd H a o) (Ow.mv ow (.tm m) (.sl i)) σ (env.set i (some (t0.put pt t'))) ∧ Out [i] env (env.set i (some (t0.put pt t'))) := by
  obtain ⟨w0, q1, S0, r0⟩ := s.at_ i t0 e2
  rw [e1] at q1
  cases q1
  obtain ⟨St, rt, sub, go⟩ := sb.put r0
  obtain ⟨a, dx, vs, S, rfl, c, f, r, hS⟩ := rt.kid hk
  refine ⟨a, dx, vs, S, rfl, c, r, fun o => ?_⟩
  have oa : ow a = .sl i := (f a foot_a).1
  have ne : ∀ {b : Addr}, ow b ≠ .sl i → b ≠ a := fun h z => h (by rw [z]; exact oa)
  have mvS : ∀ {b : Addr}, ow b = .sl i → Ow.mv ow (.tm m) (.sl i) b = .sl i := fun {b} h => by
    rw [mv_ne (by rw [h]; exact fun z => nomatch z)]; exact h
  have tpk : ∀ b ws, H b = some (.tup ws) → upd H a o b = some (.tup ws) := fun b ws e => by
    have nb : b ≠ a := fun z => by
      rw [z, c.at_] at e
      cases k with
      | tup => exact nt rfl
      | _ => cases e
    rw [upd_ne nb]; exact e
  have bs : Same (Bs H ow) (Bs (upd H a o) (Ow.mv ow (.tm m) (.sl i))) := bs_map (fun b x g2 g1 => ⟨by rw [upd_ne (ne (by rw [g1]; exact fun z => nomatch z))]; exact g2, by rw [mv_ne (by rw [g1]; exact fun z => nomatch z)]; exact g1⟩) tpk
  have keep : ∀ b x, b ≠ a → H b = some x → ow b = .sl i → upd H a o b = some x ∧ Ow.mv ow (.tm m) (.sl i) b = .sl i := fun b x hb g1 g2 => ⟨by rw [upd_ne hb]; exact g1, mvS g2⟩
  have lab0 : ∀ b, S0 b → ow b = .sl i := fun b h => (r0.there b h).1
  refine ⟨bs, r.car bs fun b x hb g1 g2 => keep b x (fun z => (f a foot_a).2 (z ▸ hb)) g1 g2, fun w u ⟨Sw, hw⟩ => ⟨Sw, hw.car bs fun b x _ g1 g2 => ⟨by rw [upd_ne (ne (by rw [g2]; exact fun z => nomatch z))]; exact g1, mv_eq g2⟩, fun b hb => ?_⟩, fun b fb => ⟨mvS (f b fb).1, (f b fb).2⟩, fun t' S' r' hS' => ?_⟩
  · have lb := (hw.there b hb).1
    refine ⟨fun z => ?_, fun z => ?_, lb⟩
    · have := lab0 b (sub b ((hS b).mpr (.inr z)))
      rw [lb] at this
      cases this
    · have := (f b z).1
      rw [lb] at this
      cases this
  · have stp : Stp [i] m H ow (upd H a o) (Ow.mv ow (.tm m) (.sl i)) := ⟨fun b x g1 g2 => by
      have nsl : ow b ≠ .sl i := fun z => by rw [z] at g2; exact g2 (by simp)
      have ntm : ow b ≠ .tm m := fun z => by rw [z] at g2; exact absurd g2 (Nat.lt_irrefl m)
      exact ⟨by rw [upd_ne (ne nsl)]; exact g1, mv_ne ntm⟩, tpk⟩
    obtain ⟨S4, r4, _⟩ := go (upd H a o) (Ow.mv ow (.tm m) (.sl i)) t' S' bs (fun b x hb n g1 g2 => keep b x (fun z => n ((hS b).mpr (.inl (z ▸ foot_a)))) g1 g2) r' fun b hb h0 => by
      rcases hS' b hb with z | z | z
      · exact (hS b).mpr (.inl z)
      · exact (hS b).mpr (.inr z)
      · have := lab0 b h0
        rw [z] at this
        cases this
    refine ⟨stp, s.stp stp Out.set1 fun j x hj e => ?_, Out.set1⟩
    have ej : j = i := by simpa using hj
    subst ej
    rw [List.getElem?_set_self (List.getElem?_eq_some_iff.mp e2).1] at e
    cases e
    exact ⟨v0, e1, _, r4⟩
end
end QV

set_option Elab.async false
set_option linter.all false
set_option maxRecDepth 100000
set_option maxHeartbeats 2000000
namespace QV
open PySem L2

def ixP (t u : T) (pt : List Nat) (Q : T → List Nat → Prop) : Prop := match u with
  | .fz (.int i) => match t with
    | .nd .lst ts => ∃ j, ixN ts.length i = some j ∧ ∃ t', ts[j]? = some t' ∧ Q t' (pt ++ [j])
    | .nd .tup ts => ∃ j, ixN ts.length i = some j ∧ ∃ t', ts[j]? = some t' ∧ Q t' (pt ++ [j])
    | .fz (.nd .lst ds) => ∃ d, atI ds i = some d ∧ Q (.fz d) []
    | .ow .lst ds => ∃ d, atI ds i = some d ∧ Q (.fz d) []
    | .fz (.nd .tup ds) => ∃ d, atI ds i = some d ∧ Q (.fz d) []
    | .ow .tup ds => ∃ d, atI ds i = some d ∧ Q (.fz d) []
    | _ => False
  | _ => False
def sPix (pa pb : SemP) : SemP := fun env Q E => pa env (fun t pt env1 => pb env1 (fun u _ env2 => ixP t u pt fun t' pt' => Q t' pt' env2) E) E
section
variable {K : PySem.W.Frag} {H : Hp} {ow : Ow} {σ : L2.St} {env : Env} {n : Nat} {root : Option Nat}
theorem Sub.cell {l : Lab} {v0 v : V} {t0 t : T} {pt : List Nat} {k : Kd} {ts : List T} (sb : Sub K H ow l v0 t0 pt v t) (r : Tq K H ow l v0 t0) (e : t.kids = some (k, ts)) : ∃ a dx vs S, v = .ref a ∧ Cell H a dx k vs ∧ (∀ b, Foot a dx k b → ow b = l ∧ ¬ S b) ∧ Tps K H ow l vs ts S := by
  obtain ⟨S, h⟩ := sb.tq r
  obtain ⟨a, dx, vs, S', h1, h2, h3, h4, _⟩ := h.kid e
  exact ⟨a, dx, vs, S', h1, h2, h3, h4⟩
theorem Plc.kid {v : V} {k : Kd} {ts : List T} {pt : List Nat} (s : StOk K H ow σ env) (h : Plc K H ow σ env n root v (.nd k ts) pt) : ∃ a dx vs, v = .ref a ∧ Cell H a dx k vs ∧ vs.length = ts.length ∧ ∀ j w t', vs[j]? = some w → ts[j]? = some t' → Plc K H ow σ env n root w t' (pt ++ [j]) := by
  rcases h with ⟨d, e, _⟩ | ⟨e, r⟩ | ⟨i, v0, t0, rfl, e1, e2, sb⟩
  · cases e
  · obtain ⟨a, dx, vs, S, h1, h2, h3, h4⟩ := Sub.cell (.nil) r (k := k) (ts := ts) rfl
    exact ⟨a, dx, vs, h1, h2, h4.len, fun j w t' g1 g2 => .inr (.inl ⟨e, let ⟨S', q⟩ := h4.get g1 g2; ⟨S', q⟩⟩)⟩
  · obtain ⟨w0, q1, r0⟩ := s.at_ i t0 e2
    rw [e1] at q1
    cases q1
    obtain ⟨a, dx, vs, S, h1, h2, h3, h4⟩ := sb.cell r0 (k := k) (ts := ts) rfl
    subst h1
    exact ⟨a, dx, vs, rfl, h2, h4.len, fun j w t' g1 g2 => .inr (.inr ⟨i, v0, t0, rfl, e1, e2, sb.snoc h2 (fun b fb => (h3 b fb).1) g1 g2⟩)⟩
theorem ixN_lt {m : Nat} {i : Int} {j : Nat} (h : ixN m i = some j) : j < m := by
  unfold ixN at h
  split at h
  · split at h
    · cases h; omega
    · cases h
  · split at h
    · cases h; omega
    · cases h
theorem atI_of {α : Type} {l : List α} {i : Int} {j : Nat} (h : ixN l.length i = some j) : atI l i = l[j]? := by unfold atI; rw [h]; rfl
theorem plc_fz {v : V} {d : D} {pt : List Nat} (r : Rp K (Bs H ow) v d) : Plc K H ow σ env n root v (.fz d) pt := .inl ⟨d, rfl, r⟩
end
section
variable {X : Cx} {W : WX} {M Ma Mb IO : List Nat} {e a b : Expr} {pa pb : SemP} {q : SemE} {ra rb root : Option Nat} {pos : Pos}
theorem p_ix (ha : QP X W Ma ra a pa) (hb : QP X W Mb rb b pb) (hs : PlainIx b := by exact fun _ _ => rfl) (hr : okR ra Mb = true := by decide) : QP X W (Ma ++ Mb) ra (.Subscript a b pos) (sPix pa pb) :=
  ⟨PE_imp (pe_ix ix_seq ha.run hb.run hs) fun σ H Qv ⟨n, ow, env, Q, E, s, hq, k, x⟩ => ⟨n, ow, env, _, E, s, hq, fun v t pt H1 ow1 env1 y1 s1 o1 r1 q1 =>
    ⟨n + 1, ow1, env1, _, E, s1, q1, fun w u pu H2 ow2 env2 y2 s2 o2 r2 q2 => by
      have P := r1.stp y2 o2 hr (Nat.lt_succ_self _)
      have y12 := y1.trans y2 subl subr (Nat.le_refl _) (Nat.le_succ _) (M := Ma ++ Mb)
      have o12 := o1.trans o2 subl subr (M := Ma ++ Mb)
      have fin : ∀ {v' : V} {t' : T} {pt' : List Nat}, Plc X.K H2 ow2 σ env2 n ra v' t' pt' → Q t' pt' env2 → Qv v' H2 := fun p z => k _ _ _ H2 ow2 env2 y12 s2 o12 p z
      have ei : ∀ {i : Int}, u = .fz (.int i) → w = .int i := fun e => by subst e; exact (r2.ro s2).int
      have lst : ∀ {i : Int} {ds : List D}, w = .int i → shL t = some ds → (∃ d, atI ds i = some d ∧ Q (.fz d) [] env2) → rIx X.K v w H2 Qv := fun {i ds} e1 e hd => by
        obtain ⟨d, hd, z⟩ := hd
        obtain ⟨a, vs, rfl, h1, z1, rr⟩ := (P.ro s2).lst e
        obtain ⟨x', e2, r3⟩ := rr.atI hd
        exact .inl ⟨a, vs, i, x', rfl, e1, .inl (.inl h1), e2, fin (plc_fz r3) z⟩
      have tup : ∀ {i : Int} {ds : List D}, w = .int i → shT t = some ds → (∃ d, atI ds i = some d ∧ Q (.fz d) [] env2) → rIx X.K v w H2 Qv := fun {i ds} e1 e hd => by
        obtain ⟨d, hd, z⟩ := hd
        obtain ⟨a, vs, rfl, h1, z1, rr⟩ := (P.ro s2).tup e
        obtain ⟨x', e2, r3⟩ := rr.atI hd
        exact .inr (.inl ⟨a, vs, i, x', rfl, e1, h1, e2, fin (plc_fz r3) z⟩)
      unfold ixP at q2
      split at q2
      · have e1 := ei rfl
        split at q2
        · obtain ⟨j, hj, t', ht, z⟩ := q2
          obtain ⟨a, dx, vs, rfl, c, l, kid⟩ := P.kid s2
          have hv : j < vs.length := by rw [l]; exact ixN_lt hj
          exact .inl ⟨a, vs, _, vs[j], rfl, e1, .inl (.inl c.at_), by rw [atI_of (by rw [l]; exact hj)]; simp [hv], fin (kid j _ _ (by simp [hv]) ht) z⟩
        · obtain ⟨j, hj, t', ht, z⟩ := q2
          obtain ⟨a, dx, vs, rfl, c, l, kid⟩ := P.kid s2
          have hv : j < vs.length := by rw [l]; exact ixN_lt hj
          exact .inr (.inl ⟨a, vs, _, vs[j], rfl, e1, sqT_of c.at_, by rw [atI_of (by rw [l]; exact hj)]; simp [hv], fin (kid j _ _ (by simp [hv]) ht) z⟩)
        · exact lst e1 rfl q2
        · exact lst e1 rfl q2
        · exact tup e1 rfl q2
        · exact tup e1 rfl q2
        · exact q2.elim
      · exact q2.elim, x.step y1 o1 subl subr (Nat.le_refl _) (Nat.le_succ _)⟩, fun r d H' ow' env' y s' o => x r d H' ow' env' (y.mono subl (Nat.le_refl _)) s' (o.mono subl)⟩⟩
end
def isL : T → Bool
  | .ow .lst _ => true
  | .nd .lst _ => true
  | _ => false
def appP (t u : T) (Q : T → T → Prop) : Prop := match t with
  | .ow .lst ds => match u with
    | .fz d => ds.length < sizeLine ∧ Q (.fz .non) (.ow .lst (ds ++ [d]))
    | u => ds.length < sizeLine ∧ Q (.fz .non) (.nd .lst (ds.map .fz ++ [u]))
  | .nd .lst ts => ts.length < sizeLine ∧ Q (.fz .non) (.nd .lst (ts ++ [u]))
  | _ => False
theorem isL_kids {t : T} (h : isL t = true) : ∃ ts, t.kids = some (.lst, ts) := by
  unfold isL at h
  split at h
  · exact ⟨_, rfl⟩
  · exact ⟨_, rfl⟩
  · cases h
section
variable {K : PySem.W.Frag} {H : Hp} {ow : Ow} {l : Lab}
theorem Tps.snoc : ∀ {vs : List V} {ts : List T} {S S1 : Addr → Prop} {w : V} {u : T}, Tps K H ow l vs ts S → Tp K H ow l w u S1 → (∀ b, S1 b → ¬ S b) → ∃ S', Tps K H ow l (vs ++ [w]) (ts ++ [u]) S' ∧ ∀ b, S' b → S b ∨ S1 b
  | _, _, _, _, _, _, .nil, r, _ => ⟨_, .cons r .nil (fun _ _ h => h), fun b h => h.elim .inr (fun h => .inl h)⟩
  | _, _, _, _, _, _, .cons (S1 := Sa) (S2 := Sb) r s d, r1, h => by
    obtain ⟨S', h1, h2⟩ := Tps.snoc s r1 fun b hb z => h b hb (.inr z)
    refine ⟨_, .cons r h1 fun b ha hb => ?_, fun b hb => ?_⟩
    · rcases h2 b hb with z | z
      · exact d b ha z
      · exact h b z (.inl ha)
    · rcases hb with z | z
      · exact .inl (.inl z)
      · rcases h2 b z with y | y
        · exact .inl (.inr y)
        · exact .inr y
theorem Tp.flat {a dx : Addr} {k : Kd} {vs : List V} {ds : List D} {S : Addr → Prop} (c : Cell H a dx k vs) (f : ∀ b, Foot a dx k b → ow b = l) (r : Tps K H ow l vs (ds.map .fz) S) : Tp K H ow l (.ref a) (.ow k ds) (Foot a dx k) := .ow c f (tps_data r).1
end
def sAppP (i : Nat) (pa : SemP) (q : SemE) : SemE := fun env Q E => pa env (fun t pt env1 => isL t = true ∧ q env1 (fun u env2 => match env2[i]? with
  | some (some t0) => appP t u fun w t' => Q w (env2.set i (some (t0.put pt t')))
  | _ => False) E) E
section
variable {X : Cx} {W : WX} {M Ma Mb IO : List Nat} {e a b o ix : Expr} {pa pb : SemP} {q qi : SemE} {ra rb root : Option Nat} {pos : Pos}
theorem okR_some {i : Nat} {M : List Nat} (h : okR (some i) M = true) : i ∉ M := of_decide_eq_true h
theorem Plc.own {K : PySem.W.Frag} {H : Hp} {ow : Ow} {σ : L2.St} {env : Env} {n i : Nat} {v : V} {t : T} {pt : List Nat} {k : Kd} {ts : List T} (h : Plc K H ow σ env n (some i) v t pt) (e : t.kids = some (k, ts)) : ∃ v0 t0, σ[i]? = some (some v0) ∧ env[i]? = some (some t0) ∧ Sub K H ow (.sl i) v0 t0 pt v t := by
  rcases h with ⟨d, rfl, _⟩ | ⟨z, _⟩ | ⟨i', v0, t0, z, e1, e2, sb⟩
  · cases e
  · cases z
  · cases z
    exact ⟨v0, t0, e1, e2, sb⟩
theorem q_appP (i : Nat) {apos cpos : Pos} (ho : QP X W Ma (some i) o pa) (he : QE X W Mb e q) (hr : okR (some i) Mb = true := by decide)
    (hbase : attributeBase o "append" X.env (eval o X.env) = eval o X.env := by rfl)
    (hfew : ((backTo cpos (starEach [e] X.env)).all (fun x => !x.1) && (backToKw cpos (keywordEach [] X.env)).all (fun x => x.1.isSome)
      && decide (([e] : List Expr).length + ([] : List Keyword).length + (if ([] : List Keyword).isEmpty then 0 else 1) < 30)) = true := by rfl)
    (hline : (apos.endLine == cpos.line) = true := by rfl) (hs : starEach [e] X.env = (false, eval e X.env) :: starEach [] X.env := by rfl) (hplain : (backTo cpos (starEach [] X.env)).any (·.1) = false := by rfl) :
    QE X W (Ma ++ (Mb ++ [i])) (.Call (.Attribute o "append" apos) [e] [] cpos) (sAppP i pa q) :=
  ⟨PE_imp (pe_bm PySem.F.plainAttrs_list PySem.F.slot_list_append PySem.F.type_list_append mt_append ho.run (pa_cons he.run pa_nil hs) hbase hfew hline hs hplain) fun σ H Qv ⟨n, ow, env, Q, E, s, hq, k, x⟩ => ⟨n, ow, env, _, E, s, hq, fun v t pt H1 ow1 env1 y1 s1 o1 r1 ⟨hk, q1⟩ => by
    obtain ⟨ts, ek⟩ := isL_kids hk
    obtain ⟨v0, t0, e1, e2, sb⟩ := r1.own ek
    obtain ⟨w0, g1, g2⟩ := s1.at_ i t0 e2
    rw [e1] at g1
    cases g1
    obtain ⟨a, dx, vs, S, ev, c, _, _⟩ := sb.cell g2 ek
    subst ev
    refine ⟨.inl ⟨rfl, vs, .inl (.inl c.at_)⟩, n + 1, ow1, env1, _, E, s1, q1, fun w u H2 ow2 env2 y2 s2 o2 r2 q2 => ?_, x.step y1 o1 subl (fun i h => subr i (subl i h)) (Nat.le_refl _) (Nat.le_succ _)⟩
    have hi := okR_some hr
    have e2' : env2[i]? = some (some t0) := (o2.eq i hi).trans e2
    have sb' : Sub X.K H2 ow2 (.sl i) v0 t0 pt (.ref a) t := sb.car (y2.car (l := .sl i) hi)
    split at q2
    · rename_i t0' e3
      rw [e2'] at e3
      cases e3
      obtain ⟨a', dx', us, S', ea, c', rr, go⟩ := put_run (m := n + 1) s2 e1 e2' sb' ek (fun z => nomatch z)
      cases ea
      obtain ⟨Bs', rS, rW, rF, fin⟩ := go (.lst (us ++ [w]))
      obtain ⟨Sw, rw', dw⟩ := rW w u r2
      obtain ⟨S3, r3, h3⟩ := Tps.snoc rS rw' fun b hb => (dw b hb).1
      have y12 : Stp (Ma ++ (Mb ++ [i])) n H1 ow1 H2 ow2 := y2.mono (fun i h => subr i (subl i h)) (Nat.le_succ _)
      have lu := rr.len
      -- what is left: the new tree
      have key : ∀ {t' : T}, us.length < sizeLine → (∃ S4, Tp X.K (upd H2 a (.lst (us ++ [w]))) (Ow.mv ow2 (.tm (n + 1)) (.sl i)) (.sl i) (.ref a) t' S4 ∧ ∀ b, S4 b → Foot a dx' .lst b ∨ S3 b) → Q (.fz .non) (env2.set i (some (t0.put pt t'))) → rAppend (.ref a) [w] H2 Qv := fun {t'} hz ⟨S4, h4, h5⟩ z => by
        refine ⟨a, us, w, rfl, rfl, c'.at_, hz, ?_⟩
        obtain ⟨y3, s3, o3⟩ := fin t' S4 h4 fun b hb => by
          rcases h5 b hb with z | z
          · exact .inl z
          · rcases h3 b z with z | z
            · exact .inr (.inl z)
            · exact .inr (.inr (dw b z).2.2)
        have y23 : Stp (Ma ++ (Mb ++ [i])) n H2 ow2 _ _ := y3.mono (fun i h => subr i (subr i h)) (Nat.le_succ _)
        exact k .non (.fz .non) _ _ _ ((y1.mono subl (Nat.le_refl _)).trans (y12.trans y23 (fun _ h => h) (fun _ h => h) (Nat.le_refl _) (Nat.le_refl _)) (fun _ h => h) (fun _ h => h) (Nat.le_refl _) (Nat.le_refl _)) s3
          ((o1.mono subl).trans ((o2.mono fun i h => subr i (subl i h)).trans (o3.mono fun i h => subr i (subr i h)) (fun _ h => h) fun _ h => h) (fun _ h => h) fun _ h => h) (Tq.fz_.mpr .non) z
      have cell : us.length < sizeLine → Cell (upd H2 a (.lst (us ++ [w]))) a dx' .lst (us ++ [w]) := fun hz => ⟨upd_same, by rw [List.length_append]; simp; omega, trivial⟩
      have nd : us.length < sizeLine → ∃ S4, Tp X.K (upd H2 a (.lst (us ++ [w]))) (Ow.mv ow2 (.tm (n + 1)) (.sl i)) (.sl i) (.ref a) (.nd .lst (ts ++ [u])) S4 ∧ ∀ b, S4 b → Foot a dx' .lst b ∨ S3 b := fun hz => ⟨_, .nd (cell hz) (fun b fb => ⟨(rF b fb).1, fun z => by
        rcases h3 b z with z | z
        · exact (rF b fb).2 z
        · exact (dw b z).2.1 fb⟩) r3, fun b h => h⟩
      cases t with
      | fz d => cases ek
      | ow kd ds =>
        cases kd <;> first | exact False.elim q2 | skip
        cases ek
        have hl : us.length = ds.length := by rw [lu, List.length_map]
        cases u with
        | fz d => exact key (by rw [hl]; exact q2.1) ⟨_, Tp.flat (S := S3) (cell (by rw [hl]; exact q2.1)) (fun b fb => (rF b fb).1) (by rw [List.map_append]; exact r3), fun b h => .inl h⟩ q2.2
        | ow _ _ => exact key (by rw [hl]; exact q2.1) (nd (by rw [hl]; exact q2.1)) q2.2
        | nd _ _ => exact key (by rw [hl]; exact q2.1) (nd (by rw [hl]; exact q2.1)) q2.2
      | nd kd ts' =>
        cases kd <;> first | exact False.elim q2 | skip
        cases ek
        exact key (by rw [lu]; exact q2.1) (nd (by rw [lu]; exact q2.1)) q2.2
    · exact q2.elim, fun r d H' ow' env' y s' o => x r d H' ow' env' (y.mono subl (Nat.le_refl _)) s' (o.mono subl)⟩⟩
end
end QV

set_option Elab.async false
set_option linter.all false
set_option maxRecDepth 100000
set_option maxHeartbeats 2000000
namespace QV
open PySem L2

abbrev SemAT := Env → (List T → Env → Prop) → XQ → Prop
def tAT (K : PySem.W.Frag) (W : WX) (M : List Nat) (m : Nat) (q : SemAT) : TA := fun σ H Qv => ∃ (n : Nat) (ow : Ow) (env : Env) (Q : List T → Env → Prop) (E : XQ), StOk K H ow σ env ∧ q env Q E ∧
  (∀ (vs : List V) (ts : List T) (H' : Hp) (ow' : Ow) (env' : Env), Stp M n H ow H' ow' → StOk K H' ow' σ env' → Out M env env' → vs.length = m → ts.length = m → (∀ (j : Nat) (v : V) (t : T), vs[j]? = some v → ts[j]? = some t → Tq K H' ow' (.tm (n + j)) v t) → Q ts env' → Qv vs H') ∧ Xk K W M σ H n ow env E
structure QAT (X : Cx) (W : WX) (M : List Nat) (k : Nat) (es : List Expr) (q : SemAT) : Prop where
  run : PA X es (tAT X.K W M k q)
def atNil : SemAT := fun env Q _ => Q [] env
def atCons (q : SemE) (qs : SemAT) : SemAT := fun env Q E => q env (fun t env1 => qs env1 (fun ts env2 => Q (t :: ts) env2) E) E
def Ow.one (ow : Ow) (n : Nat) : Ow := fun b => match ow b with
  | .tm k => if n ≤ k then .tm n else .tm k
  | l => l
section
variable {K : PySem.W.Frag} {H : Hp} {ow : Ow} {n : Nat}
theorem one_tm {k : Nat} {b : Addr} (h : ow b = .tm k) (hk : n ≤ k) : Ow.one ow n b = .tm n := by unfold Ow.one; rw [h]; exact if_pos hk
theorem one_ne {b : Addr} (h : ∀ k, ow b = .tm k → k < n) : Ow.one ow n b = ow b := by
  unfold Ow.one
  split
  · rename_i k e
    rw [if_neg (by have := h k e; omega), e]
  · rfl
theorem bs_one : Same (Bs H ow) (Bs H (Ow.one ow n)) := bs_lab fun a e1 => by rw [one_ne (fun k z => by rw [e1] at z; cases z)]; exact e1
theorem stp_one {M : List Nat} : Stp M n H ow H (Ow.one ow n) := ⟨fun a o e q => ⟨e, one_ne fun k z => by rw [z] at q; exact q⟩, fun _ _ e => e⟩
theorem tps_one : ∀ {vs : List V} {ts : List T} {m : Nat}, n ≤ m → vs.length = ts.length → (∀ (j : Nat) (v : V) (t : T), vs[j]? = some v → ts[j]? = some t → Tq K H ow (.tm (m + j)) v t) → ∃ S, Tps K H (Ow.one ow n) (.tm n) vs ts S ∧ ∀ b, S b → ∃ k, m ≤ k ∧ ow b = .tm k
  | [], [], m, _, _, _ => ⟨_, .nil, fun _ h => h.elim⟩
  | v :: vs, t :: ts, m, hm, hl, h => by
    obtain ⟨S, r⟩ := h 0 v t rfl rfl
    obtain ⟨S2, r2, h2⟩ := tps_one (vs := vs) (ts := ts) (m := m + 1) (by omega) (by simpa using hl) fun j v' t' e1 e2 => by
      have := h (j + 1) v' t' (by simpa using e1) (by simpa using e2)
      rwa [show m + 1 + j = m + (j + 1) by omega]
    have r' := r.car (H' := H) (ow' := Ow.one ow n) (l' := .tm n) bs_one fun b o _ e1 e2 => ⟨e1, one_tm e2 (by omega)⟩
    refine ⟨_, .cons r' r2 fun b hb hb2 => ?_, fun b hb => ?_⟩
    · obtain ⟨k, hk, e⟩ := h2 b hb2
      have := (r.there b hb).1
      rw [e] at this
      have := Lab.tm.inj this
      omega
    · rcases hb with z | z
      · exact ⟨m, Nat.le_refl _, by have := (r.there b z).1; simpa using this⟩
      · obtain ⟨k, hk, e⟩ := h2 b z
        exact ⟨k, by omega, e⟩
theorem tps_there {l : Lab} {vs : List V} {ts : List T} {S : Addr → Prop} (r : Tps K H ow l vs ts S) (b : Addr) (h : S b) : ∃ o, H b = some o := (r.there b h).2
theorem nd_new {k : Kd} {l : Lab} {p : Addr} {vs : List V} {ts : List T} {o : HO} (hp : H p = none) (ho : HOof k p vs = o) (hz : vs.length ≤ sizeLine) (hf : k = .lst ∨ k = .tup) {S : Addr → Prop} (r : Tps K H ow l vs ts S) : Tq K (upd H p o) (Ow.put ow p l) l (.ref p) (.nd k ts) := by
  subst ho
  have r' := r.car (H' := upd H p (HOof k p vs)) (ow' := Ow.put ow p l) (l' := l) (Stp.bs (M := []) (n := 0) (Stp.new hp)) fun b o hb e1 e2 => by
    have ne : b ≠ p := ne_of_none e1 hp
    exact ⟨by rw [upd_ne ne]; exact e1, by rw [put_ne ne]; exact e2⟩
  have fp : ∀ b, Foot p p k b → b = p := fun b fb => by rcases hf with rfl | rfl <;> exact fb
  refine ⟨_, .nd (dx := p) ⟨upd_same, hz, by rcases hf with rfl | rfl <;> trivial⟩ (fun b fb => ?_) r'⟩
  have e := fp b fb
  subst e
  refine ⟨put_same, fun z => ?_⟩
  obtain ⟨o, e⟩ := tps_there r b z
  rw [hp] at e
  cases e
end
def sNd (k : Kd) (qs : SemAT) : SemE := fun env Q E => qs env (fun ts env1 => Q (.nd k ts) env1) E
section
variable {X : Cx} {W : WX} {M Ma Mb : List Nat} {k : Nat} {e : Expr} {es : List Expr} {q : SemE} {qs : SemAT} {pos : Pos}
theorem at_nil : QAT X W [] 0 [] atNil := ⟨PA_imp pa_nil fun σ H Qv ⟨n, ow, env, Q, E, s, hq, k, x⟩ => k [] [] H ow env Stp.refl s Out.refl rfl rfl (fun j v d h => by simp at h) hq⟩
theorem at_cons (h1 : QE X W Ma e q) (h2 : QAT X W Mb k es qs) (hs : starEach (e :: es) X.env = (false, eval e X.env) :: starEach es X.env := by rfl) : QAT X W (Ma ++ Mb) (k + 1) (e :: es) (atCons q qs) :=
  ⟨PA_imp (pa_cons h1.run h2.run hs) fun σ H Qv ⟨n, ow, env, Q, E, s, hq, kk, x⟩ => ⟨n, ow, env, _, E, s, hq, fun v t H1 ow1 env1 y1 s1 o1 r1 z =>
    ⟨n + 1, ow1, env1, _, E, s1, z, fun vs ts H2 ow2 env2 y2 s2 o2 l l' hv z2 => by
      refine kk _ _ H2 ow2 env2 (y1.trans y2 subl subr (Nat.le_refl _) (Nat.le_succ _)) s2 (o1.trans o2 subl subr) (by rw [List.length_cons, l]) (by rw [List.length_cons, l']) (fun j v' t' ev et => ?_) z2
      cases j with
      | zero =>
        simp at ev et
        subst ev et
        exact (y2.car (l := .tm n) (Nat.lt_succ_self n)).tq r1
      | succ j =>
        have := hv j v' t' (by simpa using ev) (by simpa using et)
        rwa [show n + 1 + j = n + (j + 1) by omega] at this, x.step y1 o1 subl subr (Nat.le_refl _) (Nat.le_succ _)⟩, fun r d H' ow' env' y s' o => x r d H' ow' env' (y.mono subl (Nat.le_refl _)) s' (o.mono subl)⟩⟩
theorem nd_run {kd : Kd} (hf : kd = .lst ∨ kd = .tup) (hz : k ≤ sizeLine) (ho : ∀ (p : Addr) (vs : List V), HOof kd p vs = HOof kd 0 vs) {σ : L2.St} {H : Hp} {Qv : VK} (h : tQ X.K W M (sNd kd qs) σ H Qv) :
    tAT X.K W M k qs σ H fun vs H1 => vs.length ≤ sizeLine ∧ ∀ p, H1 p = none → Qv (.ref p) (upd H1 p (HOof kd 0 vs)) := by
  obtain ⟨n, ow, env, Q, E, s, hq, kk, x⟩ := h
  refine ⟨n, ow, env, _, E, s, hq, fun vs ts H1 ow1 env1 y1 s1 o1 l l' hv z => ⟨by omega, fun p hp => ?_⟩, x⟩
  obtain ⟨S, r, _⟩ := tps_one (n := n) (Nat.le_refl n) (l.trans l'.symm) hv
  have y2 : Stp M n H1 ow1 H1 (Ow.one ow1 n) := stp_one
  have s2 : StOk X.K H1 (Ow.one ow1 n) σ env1 := s1.stp0 (n := n) stp_one
  have y3 : Stp M n H1 (Ow.one ow1 n) (upd H1 p (HOof kd 0 vs)) (Ow.put (Ow.one ow1 n) p (.tm n)) := Stp.new hp
  exact kk _ _ _ _ env1 ((y1.trans y2 (fun _ h => h) (fun _ h => h) (Nat.le_refl _) (Nat.le_refl _)).trans y3 (fun _ h => h) (fun _ h => h) (Nat.le_refl _) (Nat.le_refl _)) (s2.stp0 (n := 0) (Stp.new hp)) o1
    (nd_new hp (ho p vs) (by omega) hf r) z
theorem q_tupT {x1} (h : QAT X W M k es qs) (hz : k ≤ sizeLine := by decide) : QE X W M (.Tuple es x1 pos) (sNd .tup qs) := ⟨PE_imp (pe_tup h.run) fun _ _ _ z => nd_run (.inr rfl) hz (fun _ _ => rfl) z⟩
end
end QV

set_option Elab.async false
set_option linter.all false
set_option maxRecDepth 100000
set_option maxHeartbeats 2000000
namespace QV
open PySem L2
def tAX (K : PySem.W.Frag) (W : WX) (M : List Nat) (ks : List (Option Nat)) (q : SemAT) : TA := fun σ H Qv => ∃ (n : Nat) (ow : Ow) (env : Env) (Q : List T → Env → Prop) (E : XQ), StOk K H ow σ env ∧ q env Q E ∧
  (∀ (vs : List V) (ts : List T) (H' : Hp) (ow' : Ow) (env' : Env), Stp M n H ow H' ow' → StOk K H' ow' σ env' → Out M env env' → vs.length = ks.length → ts.length = ks.length →
    (∀ (j : Nat) (v : V) (t : T), vs[j]? = some v → ts[j]? = some t → (ks[j]? = some none → Tq K H' ow' (.tm (n + j)) v t) ∧ ∀ i, ks[j]? = some (some i) → σ[i]? = some (some v)) → Q ts env' → Qv vs H') ∧ Xk K W M σ H n ow env E
structure QAX (X : Cx) (W : WX) (M : List Nat) (ks : List (Option Nat)) (es : List Expr) (q : SemAT) : Prop where
  run : PA X es (tAX X.K W M ks q)
section
variable {X : Cx} {W : WX} {M Ma Mb : List Nat} {e : Expr} {es : List Expr} {q : SemE} {qs : SemAT} {ks : List (Option Nat)} {pos : Pos}
end
section
variable {X : Cx} {W : WX} {M : List Nat} {k : Nat} {f : Addr} {fd : FuncData} {ps : List Str} {io cs : List Nat} {spec : SemF} {ks : List (Option Nat)} {e : Expr} {es : List Expr} {qs : SemAT} {x : Str} {p pos : Pos}
end
end QV

set_option Elab.async false
set_option linter.all false
set_option maxRecDepth 100000
set_option maxHeartbeats 2000000
namespace QV
open PySem PySem.Spec PyProof.Rows L2
def flD0 : D → Bool
  | .non => true
  | .bl _ => true
  | .int _ => true
  | .str _ => true
  | _ => false
mutual
def ownT : T → Bool
  | .fz d => flD0 d
  | .ow _ ds => ds.all flD0
  | .nd _ ts => ownTs ts
def ownTs : List T → Bool
  | [] => true
  | t :: ts => ownT t && ownTs ts
end
section
variable {K : PySem.W.Frag} {B B' : Hp}
theorem rp_flat {v : V} {d : D} (r : Rp K B v d) (h : flD0 d = true) : Rp K B' v d := by
  cases r with
  | non => exact .non
  | bl b => exact .bl b
  | int i => exact .int i
  | str x => exact .str x
  | _ => cases h
theorem rps_flat : ∀ {vs : List V} {ds : List D}, Rps K B vs ds → ds.all flD0 = true → Rps K B' vs ds
  | _, _, .nil, _ => .nil
  | _, _, .cons r s, h => by
    rw [List.all_cons, Bool.and_eq_true] at h
    exact .cons (rp_flat r h.1) (rps_flat s h.2)
mutual
theorem Tp.free {H H' : Hp} {ow ow' : Ow} {l l' : Lab} : ∀ {v : V} {t : T} {S : Addr → Prop}, ownT t = true → (∀ a o, S a → H a = some o → ow a = l → H' a = some o ∧ ow' a = l') → Tp K H ow l v t S → Tp K H' ow' l' v t S
  | _, _, _, h, _, .fz r => .fz (rp_flat r (by simpa [ownT] using h))
  | _, _, _, h, k, .ow c f r => .ow (c.at_same fun b o fb q => (k b o fb q (f b fb)).1) (fun b fb => let ⟨o, q⟩ := c.there fb; (k b o fb q (f b fb)).2) (rps_flat r (by simpa [ownT] using h))
  | _, _, _, h, k, .nd c f r => .nd (c.at_same fun b o fb q => (k b o (.inl fb) q (f b fb).1).1)
      (fun b fb => let ⟨o, q⟩ := c.there fb; ⟨(k b o (.inl fb) q (f b fb).1).2, (f b fb).2⟩) (Tps.free (by simpa [ownT] using h) (fun b o s => k b o (.inr s)) r)
theorem Tps.free {H H' : Hp} {ow ow' : Ow} {l l' : Lab} : ∀ {v : List V} {t : List T} {S : Addr → Prop}, ownTs t = true → (∀ a o, S a → H a = some o → ow a = l → H' a = some o ∧ ow' a = l') → Tps K H ow l v t S → Tps K H' ow' l' v t S
  | _, _, _, _, _, .nil => .nil
  | _, t :: ts, _, h, k, .cons r s d => by
    have h' : ownT t = true ∧ ownTs ts = true := by simpa [ownTs] using h
    exact .cons (Tp.free h'.1 (fun b o q => k b o (.inl q)) r) (Tps.free h'.2 (fun b o q => k b o (.inr q)) s) d
end
end
section
variable {X : Cx} {W : WX} {M : List Nat} {k : Nat} {f : Addr} {fd : FuncData} {ps : List Str} {io cs : List Nat} {spec : SemF} {ks : List (Option Nat)} {e : Expr} {es : List Expr} {qs : SemD} {x : Str} {p pos : Pos}
end
end QV

set_option Elab.async false
set_option linter.all false
set_option maxRecDepth 100000
set_option maxHeartbeats 2000000
namespace QV
open PySem L2
def look {κ α : Type} [DecidableEq κ] : List κ → List α → κ → Option α
  | k' :: ks, a :: as, k => if k' = k then some a else look ks as k
  | _, _, _ => none
theorem look_zip {κ : Type} [DecidableEq κ] : ∀ (ks : List κ) (vs : List V) (k : κ), valV (ks.zip vs) k = look ks vs k
  | [], vs, k => by simp [look, valV]
  | k' :: ks, [], k => by simp [look, valV]
  | k' :: ks, v :: vs, k => by
    rw [List.zip_cons_cons]
    by_cases e : k' = k
    · rw [valV_pos e, look, if_pos e]
    · rw [valV_neg e, look, if_neg e, look_zip ks vs k]
section
variable {K : PySem.W.Frag} {B : Hp}
theorem Rps.look {κ : Type} [DecidableEq κ] : ∀ {ks : List κ} {vs : List V} {ds : List D} {k : κ}, Rps K B vs ds → (QV.look ks ds k = none ∧ QV.look ks vs k = none) ∨ ∃ d v, QV.look ks ds k = some d ∧ QV.look ks vs k = some v ∧ Rp K B v d
  | [], _, _, _, .nil => .inl ⟨rfl, rfl⟩
  | [], _, _, _, .cons _ _ => .inl ⟨rfl, rfl⟩
  | k' :: ks, _, _, k, .nil => .inl ⟨rfl, rfl⟩
  | k' :: ks, _, _, k, .cons (d := d) (v := v) r s => by
    by_cases e : k' = k
    · exact .inr ⟨d, v, by rw [QV.look, if_pos e], by rw [QV.look, if_pos e], r⟩
    · rcases Rps.look (ks := ks) (k := k) s with ⟨h1, h2⟩ | ⟨d, v, h1, h2, h3⟩
      · exact .inl ⟨by rw [QV.look, if_neg e, h1], by rw [QV.look, if_neg e, h2]⟩
      · exact .inr ⟨d, v, by rw [QV.look, if_neg e, h1], by rw [QV.look, if_neg e, h2], h3⟩
end
def keyD : D → Option Key
  | .int i => some (Sum.inl i)
  | .str x => some (Sum.inr x)
  | _ => none
def keysD : List D → Option (List Key)
  | [] => some []
  | d :: ds => match keyD d, keysD ds with
    | some k, some ks => some (k :: ks)
    | _, _ => none
def shK : T → Option (List Key × List D)
  | .fz (.nd (.dK ks) ds) => some (ks, ds)
  | .ow (.dK ks) ds => some (ks, ds)
  | _ => none
def shKT : T → Option (List (List Key) × List D)
  | .fz (.nd (.dT ks) ds) => some (ks, ds)
  | .ow (.dT ks) ds => some (ks, ds)
  | _ => none
section
variable {K : PySem.W.Frag} {H : Hp} {ow : Ow}
theorem rp_key {B : Hp} {y : V} {d : D} {k : Key} (r : Rp K B y d) (h : keyD d = some k) : y = kV k := by
  cases r <;> cases h <;> rfl
theorem rps_keys {B : Hp} : ∀ {vs : List V} {ds : List D} {ks : List Key}, Rps K B vs ds → keysD ds = some ks → vs = ks.map kV
  | _, _, ks, .nil, h => by cases h; rfl
  | _, _, ks, .cons (d := d) (ds := ds) r s, h => by
    simp only [keysD] at h
    split at h
    · rename_i k ks' e1 e2
      cases h
      rw [rp_key r e1, rps_keys s e2]
      rfl
    · cases h
theorem Ro.key {y : V} {d : D} {k : Key} (r : Ro K H ow y (.fz d)) (h : keyD d = some k) : y = kV k := rp_key r.rd h
theorem Ro.keyT {y : V} {t : T} {ds : List D} {ks : List Key} (r : Ro K H ow y t) (e : t = .fz (.nd .tup ds)) (h : keysD ds = some ks) : ∃ b, y = .ref b ∧ H b = some (.tup (ks.map kV)) := by
  subst e
  obtain ⟨l, r⟩ := r
  cases Tq.fz_.mp r with
  | tup c z r => exact ⟨_, rfl, by rw [← rps_keys r h]; exact bs_same H ow _ _ c⟩
  | cell hn _ _ => exact absurd rfl hn
theorem Ro.dK {x : V} {t : T} {ks : List Key} {ds : List D} (h : Ro K H ow x t) (e : shK t = some (ks, ds)) : ∃ a vs, x = .ref a ∧ H a = some (.dK (ks.zip vs)) ∧ ks.length = vs.length ∧ vs.length ≤ sizeLine ∧ Rps K (Bs H ow) vs ds := by
  unfold shK at e
  split at e
  · cases e
    obtain ⟨l, h⟩ := h
    cases Tq.fz_.mp h with
    | cell _ c r => exact ⟨_, _, rfl, bs_same H ow _ _ c.at_, c.fit, c.sz, r⟩
  · cases e
    obtain ⟨l, S, h⟩ := h
    cases h with
    | ow c _ r => exact ⟨_, _, rfl, c.at_, c.fit, c.sz, r⟩
  · cases e
theorem Ro.dT {x : V} {t : T} {ks : List (List Key)} {ds : List D} (h : Ro K H ow x t) (e : shKT t = some (ks, ds)) : ∃ a vs, x = .ref a ∧ H a = some (.dT (ks.zip vs)) ∧ ks.length = vs.length ∧ vs.length ≤ sizeLine ∧ Rps K (Bs H ow) vs ds := by
  unfold shKT at e
  split at e
  · cases e
    obtain ⟨l, h⟩ := h
    cases Tq.fz_.mp h with
    | cell _ c r => exact ⟨_, _, rfl, bs_same H ow _ _ c.at_, c.fit, c.sz, r⟩
  · cases e
    obtain ⟨l, S, h⟩ := h
    cases h with
    | ow c _ r => exact ⟨_, _, rfl, c.at_, c.fit, c.sz, r⟩
  · cases e
def dGet (t u : T) : Option (Option D) := match t, u with
  | .fz (.nd (.dK ks) ds), .fz d => (keyD d).map fun k => look ks ds k
  | .ow (.dK ks) ds, .fz d => (keyD d).map fun k => look ks ds k
  | .fz (.nd (.dT ks) ds), .fz (.nd .tup es) => (keysD es).map fun k => look ks ds k
  | .ow (.dT ks) ds, .fz (.nd .tup es) => (keysD es).map fun k => look ks ds k
  | _, _ => none
theorem dget_of {x y : V} {t u : T} {o : Option D} (rx : Ro K H ow x t) (ry : Ro K H ow y u) (h : dGet t u = some o) : ∃ a r, x = .ref a ∧ DGet H a y r ∧ IsD H a ∧ ((o = none ∧ r = none) ∨ ∃ d v, o = some d ∧ r = some v ∧ Rp K (Bs H ow) v d) := by
  have kk : ∀ {ks : List Key} {ds : List D} {d : D}, shK t = some (ks, ds) → u = .fz d → ((keyD d).map fun k => look ks ds k) = some o → ∃ a r, x = .ref a ∧ DGet H a y r ∧ IsD H a ∧ ((o = none ∧ r = none) ∨ ∃ d v, o = some d ∧ r = some v ∧ Rp K (Bs H ow) v d) := fun {ks ds d} e1 e2 e3 => by
    subst e2
    obtain ⟨a, vs, rfl, c, hl, hz, r⟩ := rx.dK e1
    cases ek : keyD d with
    | none => rw [ek] at e3; cases e3
    | some k =>
      rw [ek] at e3
      cases e3
      have ey := ry.key ek
      subst ey
      refine ⟨a, _, rfl, DGet.k c, .inl ⟨_, .inl c⟩, ?_⟩
      rw [look_zip]
      exact r.look
  have kt : ∀ {ks : List (List Key)} {ds es : List D}, shKT t = some (ks, ds) → u = .fz (.nd .tup es) → ((keysD es).map fun k => look ks ds k) = some o → ∃ a r, x = .ref a ∧ DGet H a y r ∧ IsD H a ∧ ((o = none ∧ r = none) ∨ ∃ d v, o = some d ∧ r = some v ∧ Rp K (Bs H ow) v d) := fun {ks ds es} e1 e2 e3 => by
    obtain ⟨a, vs, rfl, c, hl, hz, r⟩ := rx.dT e1
    cases ek : keysD es with
    | none => rw [ek] at e3; cases e3
    | some k =>
      rw [ek] at e3
      cases e3
      obtain ⟨b, rfl, hb⟩ := ry.keyT e2 ek
      refine ⟨a, _, rfl, DGet.t c hb, .inr ⟨_, .inl c⟩, ?_⟩
      rw [look_zip]
      exact r.look
  unfold dGet at h
  split at h
  · exact kk rfl rfl h
  · exact kk rfl rfl h
  · exact kt rfl rfl h
  · exact kt rfl rfl h
  · cases h
end
def rIxA (K : PySem.W.Frag) : R2 := fun x y H Q => rIx K x y H Q ∨ ∃ a v, x = .ref a ∧ DGet H a y (some v) ∧ Q v H
theorem ix_dict {X : Cx} (hu : X.A.units + 1 < cLine) : IxR X (fun x y H Q => ∃ a v, x = .ref a ∧ DGet H a y (some v) ∧ Q v H) := by
  intro value slice pins s σ H x y v u Q I rx ry h hs
  obtain ⟨a, r, rfl, g, q⟩ := h
  obtain rfl : v = Value.ref a := rx
  exact PyProof.Rows.tail_any (dict_typeIs I g) slot_dict_getitem.lookup (d_getItem hu I g ry fun w' s3 I3 rw' => ⟨r, H, I3, rw', q⟩) hs
theorem ix_all {X : Cx} (hu : X.A.units + 65 < cLine) : IxR X (rIxA X.K) := ix_seq.or (ix_dict (by omega))
def ixA (t u : T) (Q : T → Prop) : Prop := match t with
  | .fz (.nd (.dK ks) ds) => ∃ d, dGet (.fz (.nd (.dK ks) ds)) u = some (some d) ∧ Q (.fz d)
  | .fz (.nd (.dT ks) ds) => ∃ d, dGet (.fz (.nd (.dT ks) ds)) u = some (some d) ∧ Q (.fz d)
  | .ow (.dK ks) ds => ∃ d, dGet (.ow (.dK ks) ds) u = some (some d) ∧ Q (.fz d)
  | .ow (.dT ks) ds => ∃ d, dGet (.ow (.dT ks) ds) u = some (some d) ∧ Q (.fz d)
  | t => ixG t u Q
theorem g_ixA {K : PySem.W.Frag} : Op2 K (rIxA K) ixA := by
  intro H ow n x y t u Q Qv rx ry h k
  have dd : (∃ d, dGet t u = some (some d) ∧ Q (.fz d)) → rIxA K x y H Qv := fun ⟨d, h1, q⟩ => by
    obtain ⟨a, r, rfl, g, _, hr⟩ := dget_of rx ry h1
    rcases hr with ⟨z, _⟩ | ⟨d', v, e1, rfl, rv⟩
    · cases z
    · cases e1
      exact .inr ⟨a, v, rfl, g, k _ _ H ow Stp.refl (Tq.fz_.mpr rv) q⟩
  unfold ixA at h
  split at h
  · exact dd h
  · exact dd h
  · exact dd h
  · exact dd h
  · exact .inl (g_ix H ow n x y t u Q Qv rx ry h k)
def rInB (K : PySem.W.Frag) (neg : Bool) : R2 := fun x y H Q => rInAll K neg x y H Q ∨ (∃ d ds, Dp K H x d ∧ Dp K H y (.tuple ds) ∧ SeqAt.shaped d = true ∧ SeqAt.shaped (.tuple ds) = true ∧ Q (.bl (if neg then !ds.any (fun z => PyData.eqv z d) else ds.any fun z => PyData.eqv z d)) H) ∨
  ∃ a o, y = .ref a ∧ DGet H a x o ∧ Q (.bl (if neg then !o.isSome else o.isSome)) H
theorem op_niT {X : Cx} (hu : X.A.units + 65 < cLine) : OpR X (compareOp .NotIn) (fun x y H Q => ∃ d ds, Dp X.K H x d ∧ Dp X.K H y (.tuple ds) ∧ SeqAt.shaped d = true ∧ SeqAt.shaped (.tuple ds) = true ∧ Q (.bl (!ds.any fun z => PyData.eqv z d)) H) := by
  intro pins s σ H x y v u Q I rx ry h
  obtain ⟨d, ds, hd, he, sd, se, q⟩ := h
  obtain ⟨as, r1⟩ := Dp.reads I d x v hd rx
  obtain ⟨bs, r2⟩ := Dp.reads I (.tuple ds) y u he ry
  exact SeqAt.notIn_tuple_reads r2 r1 (SeqAt.canLay_of_shaped se) (SeqAt.canLay_of_shaped sd) (PyProof.Rows.room_in_shaped sd hu) ⟨.bl _, H, I, rfl, q⟩
theorem op_niDc {X : Cx} (hu : X.A.units + 65 < cLine) : OpR X (compareOp .NotIn) (fun x y H Q => ∃ a o, y = .ref a ∧ DGet H a x o ∧ Q (.bl (!o.isSome)) H) := by
  intro pins s σ H x y v u Q I rx ry ⟨a, o, e, g, q⟩
  subst e
  obtain rfl : u = Value.ref a := ry
  exact d_notIn (by omega) I g rx fun s3 I3 => ⟨.bl (!o.isSome), H, I3, rfl, q⟩
theorem op_niB {X : Cx} (hu : X.A.units + 65 < cLine) : OpR X (compareOp .NotIn) (rInB X.K true) := (op_niAll hu).or (OpR.or (op_niT hu) (op_niDc hu))
def inA (neg : Bool) (t u : T) (Q : T → Prop) : Prop := match u with
  | .fz (.nd .tup es) => ((flD t.d && es.all flD) = true ∨ (t.d.pl 63 = true ∧ Dspl 63 es = true)) ∧ Q (.fz (.bl (if neg then !es.any (fun z => eqD z t.d) else es.any fun z => eqD z t.d)))
  | .fz (.nd (.dK ks) ds) => ∃ o, dGet (.fz (.nd (.dK ks) ds)) t = some o ∧ Q (.fz (.bl (if neg then !o.isSome else o.isSome)))
  | .fz (.nd (.dT ks) ds) => ∃ o, dGet (.fz (.nd (.dT ks) ds)) t = some o ∧ Q (.fz (.bl (if neg then !o.isSome else o.isSome)))
  | .ow (.dK ks) ds => ∃ o, dGet (.ow (.dK ks) ds) t = some o ∧ Q (.fz (.bl (if neg then !o.isSome else o.isSome)))
  | .ow (.dT ks) ds => ∃ o, dGet (.ow (.dT ks) ds) t = some o ∧ Q (.fz (.bl (if neg then !o.isSome else o.isSome)))
  | u => inG neg t u Q
theorem g_inA {K : PySem.W.Frag} (neg : Bool) : Op2 K (rInB K neg) (inA neg) := by
  intro H ow n x y t u Q Qv rx ry h k
  have dd : (∃ o, dGet u t = some o ∧ Q (.fz (.bl (if neg then !o.isSome else o.isSome)))) → rInB K neg x y H Qv := fun ⟨o, h1, q⟩ => by
    obtain ⟨a, r, rfl, g, _, hr⟩ := dget_of ry rx h1
    refine .inr (.inr ⟨a, r, rfl, g, k _ _ H ow Stp.refl (Tq.fz_.mpr ?_) q⟩)
    have : r.isSome = o.isSome := by
      rcases hr with ⟨rfl, rfl⟩ | ⟨_, _, rfl, rfl, _⟩ <;> rfl
    rw [this]
    exact .bl _
  unfold inA at h
  split at h
  · rename_i es
    obtain ⟨h1 | h1, q⟩ := h
    · exact .inl (g_in neg H ow n x y t _ Q Qv rx ry ⟨h1, q⟩ k)
    · have p1 : (D.nd .tup es).pl 64 = true := by simpa [D.pl] using h1.2
      have hy := ry.rd
      have d1 := Rp.dp (n := 64) (.nd .tup es) hy p1
      have s1 := D.pl_shaped p1 (Nat.le_refl _)
      refine .inr (.inl ⟨t.d.py, Dspy es, rx.rd.dp _ h1.1, by simpa [D.py] using d1, D.pl_shaped h1.1 (by decide), by simpa [D.py] using s1, k _ _ H ow Stp.refl (Tq.fz_.mpr ?_) q⟩)
      rw [pl_any h1.1 es h1.2]
      exact .bl _
  · exact dd h
  · exact dd h
  · exact dd h
  · exact dd h
  · exact .inl (g_in neg H ow n x y t _ Q Qv rx ry h k)
def rLenB (K : PySem.W.Frag) : List V → Hp → VK → Prop := fun xs H Q => rLenAll K xs H Q ∨ ∃ p kvs, xs = [.ref p] ∧ H p = some (.dK kvs) ∧ Q (.int kvs.length) H
theorem c_lenB {X : Cx} : CallR X (.builtin "len") (rLenB X.K) := by
  intro pins s σ H xs us Q I r h
  rcases h with h | ⟨p, kvs, e, c, q⟩
  · exact c_len pins s σ H xs us Q I r h
  · subst e
    obtain ⟨u, rfl, ru⟩ := vals1 r
    cases ru
    exact d_len I (.inl c) fun t s' I' => ⟨.int kvs.length, H, I', ⟨t, rfl⟩, q⟩
def lenA (t : T) (Q : T → Prop) : Prop := match t with
  | .fz (.nd (.dK ks) ds) => Q (.fz (.int ks.length))
  | .ow (.dK ks) ds => Q (.fz (.int ks.length))
  | t => lenG t Q
theorem g_lenB {K : PySem.W.Frag} : Op1 K (fun x H Q => rLenB K [x] H Q) lenA := by
  intro H ow n x t Q Qv rx h k
  have dd : ∀ {ks : List Key} {ds : List D}, shK t = some (ks, ds) → Q (.fz (.int ks.length)) → rLenB K [x] H Qv := fun {ks ds} e q => by
    obtain ⟨a, vs, rfl, c, hl, hz, r⟩ := rx.dK e
    refine .inr ⟨a, _, rfl, c, k _ _ H ow Stp.refl (Tq.fz_.mpr ?_) q⟩
    rw [List.length_zip, ← hl, Nat.min_self]
    exact .int _
  unfold lenA at h
  split at h
  · exact dd rfl h
  · exact dd rfl h
  · exact .inl (g_len H ow n x t Q Qv rx h k)
section
variable {X : Cx} {W : WX} {M Ma Mb : List Nat} {a b : Expr} {pa pb : SemP} {ra rb : Option Nat} {pos : Pos}
theorem q_ixA (hu : X.A.units + 65 < cLine) (ha : QP X W Ma ra a pa) (hb : QP X W Mb rb b pb) (hs : PlainIx b := by exact fun _ _ => rfl) (hr : okR ra Mb = true := by decide) : QE X W (Ma ++ Mb) (.Subscript a b pos) (s2 pa pb ixA) := q_ixR (ix_all hu) g_ixA ha hb hs hr
theorem t_niA (hu : X.A.units + 65 < cLine) (ha : QP X W Ma ra a pa) (hb : QP X W Mb rb b pb) (hr : okR ra Mb = true := by decide) (hm : behindInMarks .NotIn b = false := by rfl) : QT X W (Ma ++ Mb) (.Compare a [.NotIn] [b] pos) (sT (s2 pa pb (inA true))) := t_cmpR (op_niB hu) (g_inA true) ha hb hm hr
end
end QV

set_option Elab.async false
set_option linter.all false
set_option maxRecDepth 100000
set_option maxHeartbeats 2000000
namespace QV
open PySem PySem.Spec PyProof.Rows L2
inductive LcT (g : SemG) (t : SemT) (q : SemE) (vs : List Nat) (Q : T → Env → Prop) (ds : List D) (env1 : Env) : Prop
  | mk (h : ∃ I : Nat → List T → Env → Prop, I 0 [] env1 ∧
  (∀ j d acc env', ds[j]? = some d → I j acc env' → g d (wipeE env' vs) fun env2 => t env2 (fun b env3 => (b = true → q env3 (fun w env4 => I (j + 1) (acc ++ [w]) (rstE env' vs env4)) noX) ∧ (b = false → I (j + 1) acc (rstE env' vs env3))) noX) ∧ ∀ acc env', I ds.length acc env' → Q (.nd .lst acc) env')
  | no (h : False)
theorem LcT.ex {g : SemG} {t : SemT} {q : SemE} {vs : List Nat} {Q : T → Env → Prop} {ds : List D} {env1 : Env} : LcT g t q vs Q ds env1 → ∃ I : Nat → List T → Env → Prop, I 0 [] env1 ∧
  (∀ j d acc env', ds[j]? = some d → I j acc env' → g d (wipeE env' vs) fun env2 => t env2 (fun b env3 => (b = true → q env3 (fun w env4 => I (j + 1) (acc ++ [w]) (rstE env' vs env4)) noX) ∧ (b = false → I (j + 1) acc (rstE env' vs env3))) noX) ∧ ∀ acc env', I ds.length acc env' → Q (.nd .lst acc) env'
  | .mk h => h
  | .no h => h.elim
theorem LcT.fr {g : SemG} {t : SemT} {q : SemE} {vs : List Nat} {Q : T → Env → Prop} {ds : List D} {env : Env} (ms : List Nat) (I : Nat → List T → List (Option T) → Prop) (h0 : ∃ us, env = putE env ms us ∧ I 0 [] us)
    (hs : ∀ j d acc us, ds[j]? = some d → I j acc us → g d (wipeE (putE env ms us) vs) fun env2 => t env2 (fun b env3 => (b = true → q env3 (fun w env4 => ∃ us', rstE (putE env ms us) vs env4 = putE env ms us' ∧ I (j + 1) (acc ++ [w]) us') noX) ∧ (b = false → ∃ us', rstE (putE env ms us) vs env3 = putE env ms us' ∧ I (j + 1) acc us')) noX) (he : ∀ acc us, I ds.length acc us → Q (.nd .lst acc) (putE env ms us)) : LcT g t q vs Q ds env :=
  .mk ⟨fun j acc e => ∃ us, e = putE env ms us ∧ I j acc us, h0, fun j d acc env' hd ⟨us, e, i⟩ => by subst e; exact hs j d acc us hd i, fun acc env' ⟨us, e, i⟩ => by subst e; exact he acc us i⟩
section
variable {X : Cx} {W : WX} {Mi Mt Me M IO SS : List Nat} {elt tg iter e : Expr} {ifs : List Expr} {scope : Scope} {own : List (Str × Nat)} {pos spos py : Pos} {qi : SemI} {g : SemG} {t : SemT} {q : SemE} {y : Str} {i : Nat}
end
end QV

set_option Elab.async false
set_option linter.all false
set_option maxRecDepth 100000
set_option maxHeartbeats 2000000
namespace QV
open PySem PySem.Spec PyProof.Rows L2
section
variable {K : PySem.W.Frag} {B H : Hp} {ow : Ow} {σ : L2.St} {env : Env} {i n : Nat}
end
section
variable {X : Cx} {W : WX} {Ma Mb IO : List Nat} {e ix : Expr} {q qi : SemE} {x : Str} {px tpos pos : Pos}
end
end QV

set_option Elab.async false
set_option linter.all false
set_option maxRecDepth 100000
set_option maxHeartbeats 2000000
namespace QV
open PySem PySem.Spec PyProof.Rows L2
def dd (ns : List Int) : List Int := PyProof.Rows.firstMet (fun i => ns.getD i 0) ns.length
section
variable {X : Cx} {W : WX} {M : List Nat} {root : Option Nat} {pa : SemP}
end
end QV

set_option Elab.async false
set_option linter.all false
set_option maxRecDepth 100000
set_option maxHeartbeats 2000000
namespace QV
open PySem L2
end QV

set_option Elab.async false
set_option linter.all false
set_option maxRecDepth 100000
set_option maxHeartbeats 2000000
namespace L2
open PySem PySem.Spec PyProof.Rows
theorem mergeK_fresh : ∀ (more kvs : List (Key × V)), ((kvs ++ more).map (·.1)).Nodup → mergeK kvs more = kvs ++ more
  | [], kvs, _ => by simp [mergeK]
  | p :: r, kvs, h => by
    have hv : valV kvs p.1 = none := by
      rw [List.map_append, List.map_cons] at h
      have h1 := (List.nodup_append.mp h).2.2
      cases e : valV kvs p.1 with
      | none => rfl
      | some v =>
        exfalso
        have hm : p.1 ∈ kvs.map (·.1) := by
          clear h h1
          induction kvs with
          | nil => cases e
          | cons q kvs ih =>
            by_cases z : q.1 = p.1
            · rw [← z]; simp
            · rw [valV_neg z] at e
              exact List.mem_cons_of_mem _ (ih e)
        exact h1 p.1 hm p.1 (by simp) rfl
    show mergeK (putK kvs p.1 p.2) r = _
    rw [putK_new p.2 hv, mergeK_fresh r (kvs ++ [(p.1, p.2)]) (by simpa using h)]
    simp
theorem mergeK_nil {more : List (Key × V)} (h : (more.map (·.1)).Nodup) : mergeK [] more = more := by
  rw [mergeK_fresh more [] (by simpa using h), List.nil_append]
section
variable {X : Cx}
end
end L2
namespace QV
open PySem PySem.Spec PyProof.Rows L2
section
variable {X : Cx} {W : WX} {M Ma Mb Mc : List Nat} {o e f : Expr} {pa : SemP} {qb qc : SemE} {ra : Option Nat} {apos cpos : Pos}
end
abbrev SemPr := Env → (List Key → List D → Env → Prop) → XQ → Prop
def tPr (K : PySem.W.Frag) (W : WX) (M : List Nat) (q : SemPr) (σ : L2.St) (H : Hp) (Qv : List (V × V) → Hp → Prop) : Prop := ∃ (n : Nat) (ow : Ow) (env : Env) (Q : List Key → List D → Env → Prop) (E : XQ), StOk K H ow σ env ∧ q env Q E ∧
  (∀ (vs : List V) (ks : List Key) (ds : List D) (H' : Hp) (ow' : Ow) (env' : Env), Stp M n H ow H' ow' → StOk K H' ow' σ env' → Out M env env' → ks.length = vs.length → Rps K (Bs H' ow') vs ds → Q ks ds env' → Qv ((ks.map kV).zip vs) H') ∧ Xk K W M σ H n ow env E
structure QPr (X : Cx) (W : WX) (M : List Nat) (pos : Pos) (ks : List (Option Expr)) (vs : List Expr) (q : SemPr) : Prop where
  run : ∃ trs, PPs X pos ks vs trs ∧ ∀ σ H Qv, tPr X.K W M q σ H Qv → tPairs trs σ H Qv
section
variable {X : Cx} {W : WX} {M Ma Mb Mc : List Nat} {o e f : Expr} {ks : List (Option Expr)} {vs : List Expr} {qk qv : SemE} {qr : SemPr} {pos : Pos}
end
section
variable {X : Cx} {W : WX} {M : List Nat} {e : Expr} {x : Str} {px : Pos}
end
section
variable {K : PySem.W.Frag} {B : Hp}
end
section
variable {X : Cx} {W : WX} {M : List Nat} {e : Expr} {pa : SemP} {root : Option Nat} {p pos : Pos}
end
end QV

set_option Elab.async false
set_option linter.all false
set_option maxRecDepth 100000
set_option maxHeartbeats 2000000
namespace QV
open PySem PySem.Spec PyProof.Rows L2
open Classical in
noncomputable def Ow.mvS (ow : Ow) (S : Addr → Prop) (l : Lab) : Ow := fun b => if S b then l else ow b
abbrev SemGT := List T → Env → (Env → Prop) → Prop
def tGT (K : PySem.W.Frag) (SS : List Nat) (g : SemGT) : TGs := fun vs σ H Q => ∃ (ow : Ow) (env : Env) (ts : List T) (S : Addr → Prop) (k : Env → Prop), StOk K H ow σ env ∧ Tps K H ow (.tm 0) vs ts S ∧ g ts env k ∧
  ∀ σ' env' ow', Stp [] 0 H ow H ow' → Tch SS σ σ' → StOk K H ow' σ' env' → k env' → Q σ' H
structure QGT (X : Cx) (SS : List Nat) (tg : List Expr) (g : SemGT) : Prop where
  run : PGs X tg (tGT X.K SS g)
section
variable {X : Cx} {SS S1 S2 IO : List Nat} {es : List Expr} {g : SemGT} {pos : Pos}
end
end QV

set_option Elab.async false
set_option linter.all false
set_option maxRecDepth 100000
set_option maxHeartbeats 2000000
namespace QV
open PySem PySem.Spec PyProof.Rows L2
section
variable {X : Cx} {W : WX} {Ma Mb : List Nat} {a b : Expr} {pa pb : SemP} {ra rb : Option Nat} {pos : Pos}
end
end QV

set_option Elab.async false
set_option linter.all false
set_option maxRecDepth 100000
set_option maxHeartbeats 2000000
namespace QV
open PySem PySem.Spec PyProof.Rows L2
def keyOf : Key → D
  | .inl i => .int i
  | .inr x => .str x
section
variable {X : Cx} {W : WX} {M : List Nat} {e : Expr} {pa : SemP} {root : Option Nat} {p pos : Pos}
end
end QV

set_option Elab.async false
set_option linter.all false
set_option maxRecDepth 100000
set_option maxHeartbeats 2000000
namespace QV
open PySem PySem.Spec PyProof.Rows L2
mutual
def okD : D → Bool
  | .nd .tup ds => okDs ds
  | .nd .lst [] => true
  | .nd .lst (d :: ds) => !flD0 d && okDs (d :: ds)
  | d => flD0 d
def okDs : List D → Bool
  | [] => true
  | d :: ds => okD d && okDs ds
end
section
variable {K : PySem.W.Frag} {B B' : Hp}
def badO (o : HO) : Prop := ∃ (v : V) (vs : List V), o = .lst (v :: vs) ∧ ∀ a : Addr, v ≠ .ref a
theorem rp_ref {v : V} {d : D} (r : Rp K B v d) (h : flD0 d = false) : ∃ a, v = .ref a := by
  cases r with
  | non => cases h
  | bl b => cases h
  | int i => cases h
  | str x => cases h
  | _ => exact ⟨_, rfl⟩
theorem rp_nref {v : V} {d : D} (r : Rp K B v d) (h : flD0 d = true) : ∀ a : Addr, v ≠ .ref a := by
  cases r with
  | non => intro a e; cases e
  | bl b => intro a e; cases e
  | int i => intro a e; cases e
  | str x => intro a e; cases e
  | _ => cases h
mutual
theorem rp_keep (e : ∀ a o, B a = some o → ¬ badO o → B' a = some o) : ∀ {v : V} {d : D}, Rp K B v d → okD d = true → Rp K B' v d
  | _, _, .non, _ => .non
  | _, _, .bl b, _ => .bl b
  | _, _, .int i, _ => .int i
  | _, _, .str x, _ => .str x
  | _, _, .scr _, h => by simp [okD, flD0] at h
  | _, _, .exc0 _ _, h => by simp [okD, flD0] at h
  | _, _, .exc1 _ _ _, h => by simp [okD, flD0] at h
  | _, _, .tup c z r, h => .tup (e _ _ c fun ⟨_, _, q, _⟩ => nomatch q) z (rps_keep e r (by simpa [okD] using h))
  | _, _, .cell (k := k) (vs := vs) (ds := ds) hk c r, h => by
    cases k with
    | lst =>
      have hb : ¬ badO (.lst vs) := fun ⟨v0, vs0, q, nr⟩ => by
        have q : vs = v0 :: vs0 := by cases q; rfl
        subst q
        cases r with
        | cons r0 rs =>
          simp only [okD, Bool.and_eq_true, Bool.not_eq_true'] at h
          obtain ⟨a, ea⟩ := rp_ref r0 h.1
          exact nr a ea
      refine .cell hk ⟨e _ _ c.at_ hb, c.sz, trivial⟩ (rps_keep e r ?_)
      cases ds with
      | nil => rfl
      | cons d ds => simp only [okD, Bool.and_eq_true] at h; exact h.2
    | tup => exact absurd rfl hk
    | dK ks => simp [okD, flD0] at h
    | dT ks => simp [okD, flD0] at h
    | lkT o ks => simp [okD, flD0] at h
    | lsA b => simp [okD, flD0] at h
    | ins C ks => simp [okD, flD0] at h
theorem rps_keep (e : ∀ a o, B a = some o → ¬ badO o → B' a = some o) : ∀ {vs : List V} {ds : List D}, Rps K B vs ds → okDs ds = true → Rps K B' vs ds
  | _, _, .nil, _ => .nil
  | _, _, .cons r s, h => by
    simp only [okDs, Bool.and_eq_true] at h
    exact .cons (rp_keep e r h.1) (rps_keep e s h.2)
end
end
open Classical in
noncomputable def labV (C : Addr → Prop) (ow : Ow) : Ow := fun a => if ow a = .base ∨ C a then .base else .fr
section
variable {X : Cx} {W : WX} {M : List Nat} {k : Nat} {f : Addr} {fd : FuncData} {ps : List Str} {io cs : List Nat} {spec : SemF} {ks : List (Option Nat)} {e : Expr} {es : List Expr} {qs : SemD} {x : Str} {p pos : Pos}
end
end QV

set_option Elab.async false
set_option linter.all false
set_option maxRecDepth 100000
set_option maxHeartbeats 2000000
namespace QV
open PySem PySem.Spec PyProof.Rows L2
def fldG (C : Addr) (f : Str) (t : T) (Q : T → Prop) : Prop := match t with
  | .fz (.nd (.ins C' ks) ds) => C' = C ∧ ∃ d, (ks.zip ds).lookup f = some d ∧ Q (.fz d)
  | .ow (.ins C' ks) ds => C' = C ∧ ∃ d, (ks.zip ds).lookup f = some d ∧ Q (.fz d)
  | _ => False
theorem look_no {α : Type} {f : Str} : ∀ {ks : List Str} {vs : List α}, ks.contains f = false → (ks.zip vs).lookup f = none
  | [], _, _ => by simp
  | k :: ks, [], _ => by simp
  | k :: ks, v :: vs, h => by
    rw [List.contains_cons, Bool.or_eq_false_iff] at h
    rw [List.zip_cons_cons, List.lookup_cons]
    rw [h.1]
    exact look_no (ks := ks) h.2
section
variable {X : Cx} {W : WX} {M Ma Mb : List Nat} {k : Nat} {f C : Addr} {fd : FuncData} {ps : List Str} {io : List Nat} {sp : Sp} {spec : SemF} {ks : List (Option Nat)} {o e : Expr} {es : List Expr} {q : SemE} {qs : SemD} {m x : Str} {p pos apos : Pos} {ta : TE} {t : TA} {pa : SemP} {root : Option Nat}
theorem q_fld (c : Cls X.K C) (hn : NoAttr X.K C x) (ha : QP X W M root e pa) (hb : attributeBase e x X.env (eval e X.env) = eval e X.env := by rfl) : QE X W M (.Attribute e x pos) (s1 pa (fldG C x)) :=
  ⟨PE_imp (pe_fld ha.run hb) fun σ H Qv ⟨n, ow, env, Q, E, s, hq, kk, xx⟩ => ⟨n, ow, env, _, E, s, hq, fun v t pt H' ow' env' y1 s' o r z => by
    have rx : Ro X.K H' ow' v t := r.ro s'
    unfold fldG at z
    split at z
    · obtain ⟨rfl, d, hl, z⟩ := z
      obtain ⟨l, rx⟩ := rx
      cases Tq.fz_.mp rx with
      | cell _ cc rr =>
        obtain ⟨v', h1, h2⟩ := zip_look cc.fit.1 rr hl
        exact ⟨_, _, _, _, v', rfl, (bs_some cc.at_).2, c, hn, h1, kk v' (.fz d) H' ow' env' y1 s' o (Tq.fz_.mpr h2) z⟩
    · obtain ⟨rfl, d, hl, z⟩ := z
      obtain ⟨l, S, rx⟩ := rx
      cases rx with
      | ow cc _ rr =>
        obtain ⟨v', h1, h2⟩ := zip_look cc.fit.1 rr hl
        exact ⟨_, _, _, _, v', rfl, cc.at_, c, hn, h1, kk v' (.fz d) H' ow' env' y1 s' o (Tq.fz_.mpr h2) z⟩
    · exact z.elim, xx⟩⟩
theorem pe_methG {pl : Sem Bool} (he : PE X o ta) (c : Cls X.K C) (hm : Meth X.K C m f) (F : FnG X.prog X.w X.K X.mg X.base k f fd ps sp) (hr : Room k X.A) (hG : X.A.guards = some []) (hb : Binds X.K fd ps []) (tk : L2.Takes X W) (ha : PA X (e :: es) t)
    (hst : starEach (e :: es) X.env = (false, eval e X.env) :: starEach es X.env := by rfl) (hpl : (backTo pos (starEach es X.env)).any (·.1) = false := by rfl)
    (ht : eval (.Call (.Attribute o m apos) (e :: es) [] pos) X.env = (do
      let ov ← eval o X.env
      standAt apos.atName
      let (f, first) ← holding [ov] (getMethod ov m pl)
      callWith pos f first (backTo pos (starEach (e :: es) X.env)) (backToKw pos (keywordEach [] X.env))) := by rfl) :
    PE X (.Call (.Attribute o m apos) (e :: es) [] pos) (fun σ H Q => ta σ H fun x H1 => ∃ a dx fs, x = .ref a ∧ H1 a = some (.ins C dx fs) ∧ fs.lookup m = none ∧ t σ H1 fun vs H2 => sp (x :: vs) H2 Q fun cls d H' => W cls d σ H') := by
  refine ⟨fun pins s σ H Q I h => ?_⟩
  refine PySem.W.methodCall_KW (pl := pl) (thn (he.run pins s σ H _ I h) fun u s1 ⟨x, H1, I1, rx, a, dx, fs, ex, ea, l, q⟩ => ?_) ht
  subst ex
  obtain rfl : u = Value.ref a := rx
  refine getmeth_ok I1 ea c hm l ?_
  refine PySem.W.callWith_K (first := [.ref a]) (h₀ := X.base) I.ok.mod.kin hm.kp (thn (ha.run pos pins s1 σ H1 _ I1 q) fun us s2 ⟨vs, H2, I2, r, q2⟩ => ⟨I2.kIn, ?_⟩) hst hpl
  exact runG (us := .ref a :: us) (vs := .ref a :: vs) F hr hG hb tk I2 (.cons rfl r) q2
theorem pe_methG0 {pl : Sem Bool} (he : PE X o ta) (c : Cls X.K C) (hm : Meth X.K C m f) (F : FnG X.prog X.w X.K X.mg X.base k f fd ps sp) (hr : Room k X.A) (hG : X.A.guards = some []) (hb : Binds X.K fd ps []) (tk : L2.Takes X W)
    (ht : eval (.Call (.Attribute o m apos) [] [] pos) X.env = (do
      let ov ← eval o X.env
      standAt apos.atName
      let (f, first) ← holding [ov] (getMethod ov m pl)
      callWith pos f first (backTo pos (starEach [] X.env)) (backToKw pos (keywordEach [] X.env))) := by rfl) :
    PE X (.Call (.Attribute o m apos) [] [] pos) (fun σ H Q => ta σ H fun x H1 => ∃ a dx fs, x = .ref a ∧ H1 a = some (.ins C dx fs) ∧ fs.lookup m = none ∧ sp [x] H1 Q fun cls d H' => W cls d σ H') := by
  refine ⟨fun pins s σ H Q I h => ?_⟩
  refine PySem.W.methodCall_KW (pl := pl) (thn (he.run pins s σ H _ I h) fun u s1 ⟨x, H1, I1, rx, a, dx, fs, ex, ea, l, q⟩ => ?_) ht
  subst ex
  obtain rfl : u = Value.ref a := rx
  refine getmeth_ok I1 ea c hm l ?_
  exact PySem.W.callWith_K0 (first := [.ref a]) I1.kIn hm.kp (runG (us := [.ref a]) (vs := [.ref a]) F hr hG hb tk I1 (.cons rfl .nil) q)
def CalleeM (P : Program) (w : World) (K : PySem.W.Frag) (mg : Str → Option Value) (base : Heap) (k : Nat) (C : Addr) (m : Str) (ps : List Str) (io : List Nat) (spec : SemF) : Prop := ∃ f fd, QFn P w K mg base k f fd ps io spec ∧ Meth K C m f ∧ Binds K fd ps []
def sMeth (C : Addr) (m : Str) (spec : SemF) (ks : List (Option Nat)) (cs : List Nat) (q : SemE) (qs : SemD) : SemE := fun env Q E => q env (fun t env1 => match t with
  | .fz (.nd (.ins C' fk) d0) => (C' = C ∧ fk.contains m = false) ∧ qs env1 (fun ds env2 => match asm (none :: ks) (.nd (.ins C' fk) d0 :: ds) env2 with
    | some args => spec args (fun t outs => Q t (putO cs outs env2)) (fun r outs => E r (putO cs outs env2))
    | none => False) E
  | _ => False) E
theorem q_meth {pl : Sem Bool} (F : CalleeM X.prog X.w X.K X.mg X.base k C m ps io spec) (c : Cls X.K C) (tk : L2.Takes X W) (hr : Room k X.A) (hG : X.A.guards = some [])
    (h1 : QE X W Ma o q) (h2 : QA X W Mb ks (e :: es) qs) (cs : List Nat) (hio : io.Nodup := by decide) (hK : okK (none :: ks) io cs = true := by decide) (hn : (none :: ks).length = ps.length := by rfl)
    (hst : starEach (e :: es) X.env = (false, eval e X.env) :: starEach es X.env := by rfl) (hpl : (backTo pos (starEach es X.env)).any (·.1) = false := by rfl)
    (ht : eval (.Call (.Attribute o m apos) (e :: es) [] pos) X.env = (do
      let ov ← eval o X.env
      standAt apos.atName
      let (f, first) ← holding [ov] (getMethod ov m pl)
      callWith pos f first (backTo pos (starEach (e :: es) X.env)) (backToKw pos (keywordEach [] X.env))) := by rfl) :
    QE X W ((Ma ++ Mb) ++ cs) (.Call (.Attribute o m apos) (e :: es) [] pos) (sMeth C m spec ks cs q qs) := by
  obtain ⟨f, fd, F, hm, hb⟩ := F
  refine ⟨PE_imp (pe_methG h1.run c hm F hr hG hb tk h2.run hst hpl ht) fun σ H Qv ⟨n, ow, env, Q, E, st, hq, kk, xx⟩ => ⟨n, ow, env, _, E, st, hq, fun v t H1 ow1 env1 y1 s1 o1 r1 z => ?_, fun r d H' ow' env' y s' o => xx r d H' ow' env' (y.mono (fun i h => subl i (subl i h)) (Nat.le_refl _)) s' (o.mono fun i h => subl i (subl i h))⟩⟩
  split at z
  · rename_i C' fk d0
    obtain ⟨⟨rfl, hno⟩, z⟩ := z
    have r1 := Tq.fz_.mp r1
    cases r1 with
    | cell hk cc rr =>
      refine ⟨_, _, _, rfl, (bs_some cc.at_).2, look_no hno, n + 1, ow1, env1, _, E, s1, z, fun vs ds H2 ow2 env2 y2 s2 o2 l1 l2 hv z2 => ?_, xx.step y1 o1 (fun i h => subl i (subl i h)) (fun i h => subl i (subr i h)) (Nat.le_refl _) (Nat.le_succ _)⟩
      split at z2
      · rename_i args ea
        have r2 := (Rp.cell hk cc rr : Rp X.K (Bs H1 ow1) _ (.nd (.ins C' fk) d0)).mono y2.bs
        have yy := y1.trans y2 subl subr (Nat.le_refl _) (Nat.le_succ _)
        have oo := o1.trans o2 subl subr
        refine call_run hio hK hn s2 (by rw [List.length_cons, List.length_cons, l1]) (fun j v' d' ev ed => ?_) (by rw [List.length_cons, List.length_cons, l2]) ea z2 (fun v t H3 ow3 env3 y3 s3 o3 r3 z3 => kk v t H3 ow3 env3 (yy.trans y3 subl subr (Nat.le_refl _) (Nat.le_refl _)) s3 (oo.trans o3 subl subr) r3 z3) (xx.step yy oo subl subr (Nat.le_refl _) (Nat.le_refl _))
        cases j with
        | zero =>
          simp at ev ed
          subst ev ed
          exact ⟨fun _ => r2, fun i hi => by simp at hi⟩
        | succ j => exact hv j v' d' (by simpa using ev) (by simpa using ed)
      · exact z2.elim
  · exact z.elim
def sMeth0 (C : Addr) (m : Str) (spec : SemF) (q : SemE) : SemE := fun env Q E => q env (fun t env1 => match t with
  | .fz (.nd (.ins C' fk) d0) => (C' = C ∧ fk.contains m = false) ∧ spec [.fz (.nd (.ins C' fk) d0)] (fun t outs => Q t env1) (fun r outs => E r env1)
  | _ => False) E
theorem q_meth0 {pl : Sem Bool} (F : CalleeM X.prog X.w X.K X.mg X.base k C m ps [] spec) (c : Cls X.K C) (tk : L2.Takes X W) (hr : Room k X.A) (hG : X.A.guards = some [])
    (h1 : QE X W Ma o q) (hn : 1 = ps.length := by rfl)
    (ht : eval (.Call (.Attribute o m apos) [] [] pos) X.env = (do
      let ov ← eval o X.env
      standAt apos.atName
      let (f, first) ← holding [ov] (getMethod ov m pl)
      callWith pos f first (backTo pos (starEach [] X.env)) (backToKw pos (keywordEach [] X.env))) := by rfl) :
    QE X W Ma (.Call (.Attribute o m apos) [] [] pos) (sMeth0 C m spec q) := by
  obtain ⟨f, fd, F, hm, hb⟩ := F
  refine ⟨PE_imp (pe_methG0 h1.run c hm F hr hG hb tk ht) fun σ H Qv ⟨n, ow, env, Q, E, st, hq, kk, xx⟩ => ⟨n, ow, env, _, E, st, hq, fun v t H1 ow1 env1 y1 s1 o1 r1 z => ?_, xx⟩⟩
  split at z
  · rename_i C' fk d0
    obtain ⟨⟨rfl, hno⟩, z⟩ := z
    have r1 := Tq.fz_.mp r1
    cases r1 with
    | cell hk cc rr =>
      refine ⟨_, _, _, rfl, (bs_some cc.at_).2, look_no hno, ?_⟩
      refine call_run (ks := [none]) (cs := []) (ds := [.nd (.ins C' fk) d0]) (by decide) (by decide) hn s1 rfl (fun j v' d' ev ed => ?_) rfl rfl z (fun v t H3 ow3 env3 y3 s3 o3 r3 z3 => kk v t H3 ow3 env3 (y1.trans y3 (fun _ h => h) nilsub (Nat.le_refl _) (Nat.le_refl _)) s3 (o1.trans o3 (fun _ h => h) nilsub) r3 z3) (xx.step y1 o1 (fun _ h => h) nilsub (Nat.le_refl _) (Nat.le_refl _))
      cases j with
      | zero =>
        simp at ev ed
        subst ev ed
        exact ⟨fun _ => .cell hk cc rr, fun i hi => by simp at hi⟩
      | succ j => simp at ev
  · exact z.elim
end
end QV

set_option Elab.async false
set_option linter.all false
set_option maxRecDepth 100000
set_option maxHeartbeats 2000000
namespace QV
open PySem PySem.Spec PyProof.Rows L2
def fK : List Str → Str → List Str
  | [], f => [f]
  | g :: r, f => if g = f then g :: r else g :: fK r f
def fV {α : Type} : List Str → List α → Str → α → List α
  | [], _, _, v => [v]
  | g :: r, x :: xs, f, v => if g = f then v :: xs else x :: fV r xs f v
  | _ :: _, [], _, _ => []
theorem fput_zip {f : Str} {v : V} : ∀ {ks : List Str} {vs : List V}, ks.length = vs.length → putF f v (ks.zip vs) = (fK ks f).zip (fV ks vs f v)
  | [], [], _ => rfl
  | g :: r, x :: xs, h => by
    have ih := fput_zip (f := f) (v := v) (ks := r) (vs := xs) (by simpa using h)
    rw [List.zip_cons_cons, putF, fK, fV]
    by_cases e : g = f
    · rw [if_pos e, if_pos e, if_pos e, List.zip_cons_cons]
    · rw [if_neg e, if_neg e, if_neg e, List.zip_cons_cons, ih]
theorem fput_len {α : Type} {f : Str} {v : α} : ∀ {ks : List Str} {vs : List α}, ks.length = vs.length → (fK ks f).length = (fV ks vs f v).length ∧ (fV ks vs f v).length ≤ vs.length + 1
  | [], [], _ => ⟨rfl, by simp [fV]⟩
  | g :: r, x :: xs, h => by
    have ih := fput_len (f := f) (v := v) (ks := r) (vs := xs) (by simpa using h)
    rw [fK, fV]
    by_cases e : g = f
    · rw [if_pos e, if_pos e]; exact ⟨by simpa using h, by simp⟩
    · rw [if_neg e, if_neg e]; exact ⟨by simp [ih.1], by simp; exact ih.2⟩
section
variable {K : PySem.W.Frag} {B H : Hp} {ow : Ow} {σ : L2.St} {env : Env} {i n : Nat}
theorem rps_fput {f : Str} {v : V} {d : D} (rv : Rp K B v d) : ∀ {ks : List Str} {vs : List V} {ds : List D}, Rps K B vs ds → ks.length = vs.length → Rps K B (fV ks vs f v) (fV ks ds f d)
  | [], _, _, _, _ => .cons rv .nil
  | g :: r, _ :: _, _ :: _, .cons r0 s, h => by
    rw [fV, fV]
    by_cases e : g = f
    · rw [if_pos e, if_pos e]; exact .cons rv s
    · rw [if_neg e, if_neg e]; exact .cons r0 (rps_fput rv s (by simpa using h))
theorem own_atI {C : Addr} {ks : List Str} {ds : List D} (s : StOk K H ow σ env) (e : env[i]? = some (some (.ow (.ins C ks) ds))) : ∃ a dx vs, σ[i]? = some (some (.ref a)) ∧ Cell H a dx (.ins C ks) vs ∧ Rps K (Bs H ow) vs ds ∧ ow a = .sl i ∧ ow dx = .sl i := by
  obtain ⟨v, e1, S, r⟩ := s.at_ i _ e
  cases r with
  | ow c f r => exact ⟨_, _, _, e1, c, r, f _ (.inl rfl), f _ (.inr rfl)⟩
theorem own_setI {a dx C : Addr} {ks' : List Str} {ds' : List D} {vs' : List V} (hc : ∀ ws, H a ≠ some (.tup ws)) (s : StOk K H ow σ env) (e1 : σ[i]? = some (some (.ref a))) (eo : ow a = .sl i) (ed : ow dx = .sl i) (hx : H dx = some (.own a)) (hne : dx ≠ a) (hz : vs'.length ≤ sizeLine) (hf : ks'.length = vs'.length) (r : Rps K (Bs H ow) vs' ds') :
    Stp [i] n H ow (upd H a (.ins C dx (ks'.zip vs'))) ow ∧ StOk K (upd H a (.ins C dx (ks'.zip vs'))) ow σ (env.set i (some (.ow (.ins C ks') ds'))) ∧ Out [i] env (env.set i (some (.ow (.ins C ks') ds'))) := by
  have y : ∀ {m : Nat}, Stp [i] m H ow (upd H a (.ins C dx (ks'.zip vs'))) ow := fun {m} => ⟨fun b o e q => by
    have ne : b ≠ a := fun z => by
      rw [z, eo] at q
      exact absurd (show i ∈ [i] by simp) q
    exact ⟨by rw [upd_ne ne]; exact e, rfl⟩, fun b ws e => by
    have ne : b ≠ a := fun z => hc ws (z ▸ e)
    rw [upd_ne ne]; exact e⟩
  refine ⟨y, s.stp (y (m := 0)) Out.set1 fun j t hj e => ?_, Out.set1⟩
  have ej : j = i := by simpa using hj
  subst ej
  have hl : j < env.length := by
    rw [s.len]
    exact (List.getElem?_eq_some_iff.mp e1).1
  rw [List.getElem?_set_self hl] at e
  cases e
  exact ⟨_, e1, _, .ow (k := .ins C ks') (dx := dx) ⟨upd_same, hz, hf, by rw [upd_ne hne]; exact hx, hne⟩ (fun b fb => by
    rcases fb with rfl | rfl
    · exact eo
    · exact ed) (r.mono (y (m := 0)).bs)⟩
end
def sFSt (C : Addr) (i : Nat) (f : Str) (q : SemE) : SemS := fun D env => q env (fun t env1 => match t, env1[i]? with
  | .fz d, some (some (.ow (.ins C' ks) ds)) => C' = C ∧ ks.length < 1000 ∧ D.nx (env1.set i (some (.ow (.ins C (fK ks f)) (fV ks ds f d))))
  | _, _ => False) D.ex
section
variable {X : Cx} {W : WX} {M Ma Mb IO : List Nat} {k : Nat} {f C : Addr} {fd : FuncData} {ps : List Str} {sp : Sp} {spec : SemF} {ks : List (Option Nat)} {e ix : Expr} {es : List Expr} {q qi : SemE} {qs : SemD} {x m : Str} {px tpos pos p : Pos} {t : TA}
theorem s_fld (i : Nat) (c : Cls X.K C) (hn : NoAttr X.K C m) (he : QE X W Ma e q) (hN : X.N[i]? = some x := by rfl) (hv : Vis X.env.scope x := by first | exact Or.inl rfl | exact Or.inr (Or.inl rfl) | exact Or.inr (Or.inr rfl)) (hd : (x == ("__debug__" : Str)) = false := by decide)
    (hcd : (x == ("__classdict__" : Str)) = false := by decide) (hs : swapsWith e (some (.Attribute (.Name x px) m tpos)) pos.line X.env = pure false := by rfl) : QS X W IO (.Assign [.Attribute (.Name x px) m tpos] e pos) (sFSt C i m q) :=
  ⟨PS_imp (ps_fld (pe_var (i := i) hN hv hd hcd) he.run hs) fun D σ H ⟨ow, env, De, s, hq, k⟩ => ⟨0, ow, env, _, De.ex, s, hq, fun v t H1 ow1 env1 y1 s1 _ r1 z => by
    split at z
    · rename_i d C' ks ds e2
      obtain ⟨rfl, hl, z⟩ := z
      obtain ⟨a, dx, vs, e1, cc, rr, eo, ed⟩ := own_atI s1 e2
      have hlen := fput_len (f := m) (v := v) cc.fit.1
      refine ⟨.ref a, e1, a, _, dx, _, rfl, cc.at_, c, hn, ?_, ?_⟩
      · show (ks.zip vs).length < 1000
        rw [List.length_zip]; omega
      · rw [fput_zip cc.fit.1]
        obtain ⟨y3, s3, _⟩ := own_setI (n := 0) (C := C') (ks' := fK ks m) (fun ws z => by rw [cc.at_] at z; cases z) s1 e1 eo ed cc.fit.2.1 cc.fit.2.2 (by
          have h1 := cc.fit.1
          exact Nat.le_trans hlen.2 (Nat.le_trans (show vs.length + 1 ≤ 1000 by omega) (by decide))) hlen.1 (rps_fput (Tq.fz_.mp r1) rr cc.fit.1)
        exact k.nx _ _ _ _ (y1.fs.trans y3.fs) Ios.refl s3 z
    · exact z.elim, k.ex.xk⟩⟩
theorem runMakeG {pins : List (Addr × Obj)} {σ : L2.St} {H : Hp} {s : Shared} {Q : VK} {us : List Value} {vs : List V} (M : Mk X.K C f) (F : FnG X.prog X.w X.K X.mg X.base k f fd ps sp) (hr : Room (k + 1) X.A) (hG : X.A.guards = some []) (hb : Binds X.K fd ps []) (tk : L2.Takes X W)
    (I : Inv X pins σ H s) (r : Vals vs us) (h : ∀ x dx, H x = none → H dx = none → dx ≠ x → sp (.ref x :: vs) (upd (upd H dx (.own x)) x (.ins C dx [])) (fun v H2 => v = .non ∧ Q (.ref x) H2) fun cls d H' => W cls d σ H') :
    wpAny (model X.prog X.w) X.A (call (.ref C) us) (EP X pins σ Q) X.xe s := by
  have hq := h (s.heap.objs.size + 1) s.heap.objs.size (I.hok.fresh (Nat.le_succ _)) (I.hok.fresh (Nat.le_refl _)) (Nat.ne_of_lt (Nat.lt_succ_self _))
  have I2 := Inv.made (C := C) I
  have r2 : Vals (V.ref (s.heap.objs.size + 1) :: vs) (Value.ref (s.heap.objs.size + 1) :: us) := .cons rfl r
  have hl : ((Value.ref (s.heap.objs.size + 1) :: us) ++ []).length = ps.length := by rw [List.append_nil, ← r2.length]; exact F.len _ _ _ _ hq
  have hb2 := hb _ (Value.ref (s.heap.objs.size + 1) :: us) I2.kIn hl
  rw [List.append_nil] at hb2
  refine wpAny_call (make_map (f := f) I.kIn M.makes M.init (beq_iff_eq.mp M.fn) (codeAny_mono (F.run _ X.stack _ _ ⟨Value.ref (s.heap.objs.size + 1) :: us, []⟩ (Value.ref (s.heap.objs.size + 1) :: us) _ _ _ (hr.make C us []) hG (I2.env0.make C us []) hb2 r2 hq) fun r s' hq' => ?_))
  cases r with
  | error e => exact tk _ _ (XE.of_call I2 (fun _ _ _ q => q) hq')
  | ok fl =>
    cases fl with
    | ret u =>
      obtain ⟨v, H', I3, rv, ev, q3⟩ := I2.after hq'
      subst ev
      exact ⟨rv, ⟨V.ref (s.heap.objs.size + 1), H', I3, rfl, q3⟩⟩
    | next => exact hq'.elim
    | brk => exact hq'.elim
    | cont => exact hq'.elim
theorem pe_makeG (M : Mk X.K C f) (F : FnG X.prog X.w X.K X.mg X.base k f fd ps sp) (hr : Room (k + 1) X.A) (hG : X.A.guards = some []) (hg : Gl X x) (hm : X.mg x = some (.ref C)) (hb : Binds X.K fd ps []) (tk : L2.Takes X W)
    (ha : PA X (e :: es) t) (hdb : (x == ("__debug__" : Str)) = false := by decide) (he : starEach (e :: es) X.env = (false, eval e X.env) :: starEach es X.env := by rfl) (hpl : (backTo pos (starEach es X.env)).any (·.1) = false := by rfl) :
    PE X (.Call (.Name x p) (e :: es) [] pos) (fun σ H Q => t σ H fun vs H1 => ∀ y dx, H1 y = none → H1 dx = none → dx ≠ y → sp (.ref y :: vs) (upd (upd H1 dx (.own y)) y (.ins C dx [])) (fun v H2 => v = .non ∧ Q (.ref y) H2) fun cls d H' => W cls d σ H') := by
  refine ⟨fun pins s σ H Q I h => ?_⟩
  refine wpAny_Call_Name_kw (ld_glob I hg hm ?_ hdb)
  refine PySem.W.callWith_K (h₀ := X.base) I.ok.mod.kin M.kp (thn (ha.run pos pins s σ H _ I h) fun us s1 ⟨vs, H1, I1, r, q⟩ => ⟨I1.kIn, ?_⟩) he hpl
  exact runMakeG M F hr hG hb tk I1 r q
def sMake (C : Addr) (spec : SemF) (qs : SemD) : SemE := fun env Q E => qs env (fun ds env1 => spec (.ow (.ins C []) [] :: ds.map .fz) (fun t outs => t = .fz .non ∧ ∃ u, outs = [u] ∧ Q u env1) (fun r _ => E r env1)) E
def labN (H1 : Hp) (ow1 : Ow) (m : Nat) (owc : Ow) : Ow := fun a => if (H1 a).isSome = true then ow1 a else match owc a with
  | .base => .base
  | .fr => .fr
  | _ => .tm m
theorem make_run {K : PySem.W.Frag} {n0 : Nat} {σ : L2.St} {H1 : Hp} {Qv : VK} {mm : Nat} {ow1 : Ow} {env1 : Env} {Q : T → Env → Prop} {E : XQ} {vs : List V} {ds : List D} (hn : vs.length + 1 = n0) (s1 : StOk K H1 ow1 σ env1) (rs : Rps K (Bs H1 ow1) vs ds)
    (hs : spec (.ow (.ins C []) [] :: ds.map .fz) (fun t outs => t = .fz .non ∧ ∃ u, outs = [u] ∧ Q u env1) (fun r _ => E r env1))
    (kk : ∀ v t H' ow', Stp [] mm H1 ow1 H' ow' → StOk K H' ow' σ env1 → Tq K H' ow' (.tm mm) v t → Q t env1 → Qv v H') (xx : Xk K W [] σ H1 mm ow1 env1 E)
    {y dx : Addr} (hy : H1 y = none) (hdx : H1 dx = none) (hne : dx ≠ y) : spQ K n0 [0] spec (.ref y :: vs) (upd (upd H1 dx (.own y)) y (.ins C dx [])) (fun v H2 => v = .non ∧ Qv (.ref y) H2) (fun cls d H' => W cls d σ H') := by
  obtain ⟨H0, eH0⟩ : ∃ H0, H0 = upd (upd H1 dx (.own y)) y (.ins C dx []) := ⟨_, rfl⟩
  obtain ⟨owi, eowi⟩ : ∃ owi : Ow, owi = fun a => if a = y ∨ a = dx then .sl 0 else labIn [] [] (ow1 a) := ⟨_, rfl⟩
  rw [← eH0]
  have ly : owi y = .sl 0 := by rw [eowi]; exact if_pos (.inl rfl)
  have ld : owi dx = .sl 0 := by rw [eowi]; exact if_pos (.inr rfl)
  have lo : ∀ a, a ≠ y → a ≠ dx → owi a = labIn [] [] (ow1 a) := fun a h1 h2 => by rw [eowi]; exact if_neg (fun z => z.elim h1 h2)
  have Hy : H0 y = some (.ins C dx []) := by rw [eH0]; exact upd_same
  have Hd : H0 dx = some (.own y) := by rw [eH0, upd_ne hne]; exact upd_same
  have old : ∀ a o, H1 a = some o → a ≠ y ∧ a ≠ dx ∧ H0 a = some o := fun a o e => by
    have n1 : a ≠ y := fun z => by rw [z, hy] at e; cases e
    have n2 : a ≠ dx := fun z => by rw [z, hdx] at e; cases e
    exact ⟨n1, n2, by rw [eH0, upd_ne n1, upd_ne n2]; exact e⟩
  have lIn : ∀ l, labIn [] [] l = .base ∨ labIn [] [] l = .fr := fun l => by
    cases l with
    | base => exact .inl rfl
    | _ => exact .inr rfl
  have lB : ∀ {l}, labIn [] [] l = .base → l = .base := fun {l} h => by
    cases l with
    | base => rfl
    | _ => cases h
  have bsIn : Same (Bs H1 ow1) (Bs H0 owi) := bs_map (fun a o e2 e1 => by
    obtain ⟨n1, n2, e3⟩ := old a o e2
    exact ⟨e3, by rw [lo a n1 n2, e1]; rfl⟩) fun a vs e => (old a _ e).2.2
  have rs2 := rs.mono bsIn
  have fr : ∀ {H2 : Hp} {owc : Ow}, Fs H0 owi H2 owc → ∀ a o, H1 a = some o → H2 a = some o ∧ owc a = labIn [] [] (ow1 a) := fun {H2 owc} fs a o e => by
    obtain ⟨n1, n2, e3⟩ := old a o e
    obtain ⟨q1, q2⟩ := fs a o e3 (by rw [lo a n1 n2]; exact (lIn _).symm)
    exact ⟨q1, by rw [q2, lo a n1 n2]⟩
  have stp : ∀ {H2 : Hp} {owc : Ow}, Fs H0 owi H2 owc → Stp [] mm H1 ow1 H2 (labN H1 ow1 mm owc) := fun {H2 owc} fs => ⟨fun a o e _ => ⟨(fr fs a o e).1, by unfold labN; rw [e]; rfl⟩, fun a vs e => (fr fs a _ e).1⟩
  have bsB : ∀ {H2 : Hp} {owc : Ow}, Fs H0 owi H2 owc → Same (Bs H2 owc) (Bs H2 (labN H1 ow1 mm owc)) := fun {H2 owc} fs => bs_lab fun a e1 => by
    have : labN H1 ow1 mm owc a = .base := by
      unfold labN
      cases e3 : H1 a with
      | none => simp [e1]
      | some o1 =>
        have q := (fr fs a o1 e3).2
        rw [e1] at q
        simp only [Option.isSome_some, if_true]
        exact lB q.symm
    exact this
  refine ⟨by rw [List.length_cons]; exact hn, owi, .ow (.ins C []) [] :: ds.map .fz, _, _, by rw [List.length_cons, List.length_map, ← rs.len]; exact hn, fun i t et => ?_, hs, fun v t H2 owc outs fs r lo' ho z => ?_, fun r d H2 owc outs fs rz lo' ho z => ?_⟩
  · cases i with
    | zero =>
      simp at et
      subst et
      exact ⟨.ref y, rfl, _, .ow (dx := dx) ⟨Hy, Nat.zero_le _, rfl, Hd, hne⟩ (fun b fb => by
        rcases fb with rfl | rfl
        · exact ly
        · exact ld) .nil⟩
    | succ i =>
      rw [List.getElem?_cons_succ, List.getElem?_map] at et
      obtain ⟨d, ed, rfl⟩ := Option.map_eq_some_iff.mp et
      obtain ⟨v, ev, rv⟩ := rs2.get ed
      exact ⟨v, by rw [List.getElem?_cons_succ]; exact ev, Tq.fz_.mpr rv⟩
  · obtain ⟨rfl, u, rfl, z⟩ := z
    have ev : v = .non := by cases Tq.fz_.mp r; rfl
    refine ⟨ev, ?_⟩
    obtain ⟨v0, e0, S, r0⟩ := ho 0 0 u rfl rfl
    simp at e0
    subst e0
    refine kk (.ref y) u H2 _ (stp fs) (s1.stp0 (stp fs)) ⟨S, Tp.car (bsB fs) (fun a o _ e eo => ⟨e, ?_⟩) r0⟩ z
    unfold labN
    cases e3 : H1 a with
    | none => simp [eo]
    | some o1 =>
      have q := (fr fs a o1 e3).2
      rw [eo] at q
      rcases lIn (ow1 a) with w | w <;> rw [w] at q <;> cases q
  · refine xx r d H2 _ _ (stp fs) (s1.stp0 (stp fs)) Out.refl ?_ z
    cases d with
    | none => exact rz
    | some d =>
      obtain ⟨ws, e1, e2, e3⟩ := rz
      exact ⟨ws, bsB fs _ _ e1, e2, e3.mono (bsB fs)⟩
def CalleeK (P : Program) (w : World) (K : PySem.W.Frag) (mg : Str → Option Value) (base : Heap) (k : Nat) (x : Str) (C : Addr) (ps : List Str) (spec : SemF) : Prop := ∃ f fd, QFn P w K mg base k f fd ps [0] spec ∧ Mk K C f ∧ mg x = some (.ref C) ∧ Binds K fd ps []
theorem q_make (F : CalleeK X.prog X.w X.K X.mg X.base k x C ps spec) (tk : L2.Takes X W) (hr : Room (k + 1) X.A) (hG : X.A.guards = some []) (hg : Gl X x)
    (ha : QA X W M ks (e :: es) qs) (hk : (ks.all fun x => x.isNone) = true := by rfl) (hn : ks.length + 1 = ps.length := by rfl) (hdb : (x == ("__debug__" : Str)) = false := by decide) (he : starEach (e :: es) X.env = (false, eval e X.env) :: starEach es X.env := by rfl)
    (hpl : (backTo pos (starEach es X.env)).any (·.1) = false := by rfl) : QE X W M (.Call (.Name x p) (e :: es) [] pos) (sMake C spec qs) := by
  obtain ⟨f, fd, F, hM, hm, hb⟩ := F
  exact ⟨PE_imp (pe_makeG hM F hr hG hg hm hb tk ha.run hdb he hpl) fun σ H Qv ⟨n, ow, env, Q, E, st, hq, kk, xx⟩ => tA_data hk st hq xx fun vs ds H' ow' env' y s' o l1 r z => fun a dx h1 h2 h3 =>
    make_run (by omega) s' r z (fun v t H2 ow2 y2 s2 r2 z2 => kk v t H2 ow2 env' (y.trans y2 (fun _ h => h) nilsub (Nat.le_refl _) (Nat.le_refl _)) s2 o r2 z2) (xx.step y o (fun _ h => h) nilsub (Nat.le_refl _) (Nat.le_refl _)) h1 h2 h3⟩
end
def DefM (K : PySem.W.Frag) (C : Addr) (m qual : Str) (st : Stmt) (ps : List Str) : Prop := ∃ f fd, Fun K m qual st f fd ∧ Meth K C m f ∧ Binds K fd ps []
def DefK (K : PySem.W.Frag) (mg : Str → Option Value) (x : Str) (C : Addr) (qual : Str) (st : Stmt) (ps : List Str) : Prop := ∃ f fd, Fun K "__init__" qual st f fd ∧ Mk K C f ∧ mg x = some (.ref C) ∧ Binds K fd ps []
section
variable {P : Program} {w : World} {K : PySem.W.Frag} {mg : Str → Option Value} {base : Heap}
theorem calleeM_of {k : Nat} {C : Addr} {m qual : Str} {st : Stmt} {N ps : List Str} {io : List Nat} {spec : SemF} (Df : DefM K C m qual st ps) (S : FnScope N ps (defScope st)) (hio : (io.all fun i => decide (i < ps.length)) = true) (hpN : ps.length ≤ N.length)
    (hb : ∀ (f : Addr) (cdv : Value) (A : Around) (outer : List PySem.Env) (s : Shared) (H : Hp) (E : XK) (W : WX), Room k (A.deeper (envOfC qual (defScope st) s.heap.objs.size f cdv)) → A.guards = some [] → L2.Takes (cxOf (L2.CX P w) P w K mg base N qual (defScope st) f cdv A outer s H E) W →
      PassesOwn (model P w) (A.deeper (envOfC qual (defScope st) s.heap.objs.size f cdv)) (envOfC qual (defScope st) s.heap.objs.size f cdv) (cxOf (L2.CX P w) P w K mg base N qual (defScope st) f cdv A outer s H E).xe →
      ∃ q, QSs (cxOf (L2.CX P w) P w K mg base N qual (defScope st) f cdv A outer s H E) W io (defBody st) q ∧ ∀ args Q E, args.length = ps.length → spec args Q E → q (EndsF io Q E) (env0 N.length args)) : CalleeM P w K mg base (k + 1) C m ps io spec :=
  let ⟨f, fd, F, m, b⟩ := Df
  ⟨f, fd, qfn_of F S hio hpN (hb f), m, b⟩
theorem calleeK_of {k : Nat} {C : Addr} {x qual : Str} {st : Stmt} {N ps : List Str} {spec : SemF} (Df : DefK K mg x C qual st ps) (S : FnScope N ps (defScope st)) (hio : (([0] : List Nat).all fun i => decide (i < ps.length)) = true) (hpN : ps.length ≤ N.length)
    (hb : ∀ (f : Addr) (cdv : Value) (A : Around) (outer : List PySem.Env) (s : Shared) (H : Hp) (E : XK) (W : WX), Room k (A.deeper (envOfC qual (defScope st) s.heap.objs.size f cdv)) → A.guards = some [] → L2.Takes (cxOf (L2.CX P w) P w K mg base N qual (defScope st) f cdv A outer s H E) W →
      PassesOwn (model P w) (A.deeper (envOfC qual (defScope st) s.heap.objs.size f cdv)) (envOfC qual (defScope st) s.heap.objs.size f cdv) (cxOf (L2.CX P w) P w K mg base N qual (defScope st) f cdv A outer s H E).xe →
      ∃ q, QSs (cxOf (L2.CX P w) P w K mg base N qual (defScope st) f cdv A outer s H E) W [0] (defBody st) q ∧ ∀ args Q E, args.length = ps.length → spec args Q E → q (EndsF [0] Q E) (env0 N.length args)) : CalleeK P w K mg base (k + 1) x C ps spec :=
  let ⟨f, fd, F, m, g, b⟩ := Df
  ⟨f, fd, qfn_of F S hio hpN (hb f), m, g, b⟩
end
end QV

set_option Elab.async false
set_option linter.all false
set_option maxRecDepth 100000
set_option maxHeartbeats 2000000
namespace QV
open PySem PySem.Spec PyProof.Rows L2
def sPar (i j : Nat) (qs : SemD) : SemS := fun D env => qs env (fun ds env1 => match ds with
  | [d1, d2] => D.nx ((env1.set i (some (.fz d1))).set j (some (.fz d2)))
  | _ => False) D.ex
section
variable {X : Cx} {W : WX} {M IO : List Nat} {a b : Expr} {qs : SemD} {x y : Str} {px py pt pos : Pos} {ks : List (Option Nat)}
theorem s_par (i j : Nat) {kt k2 pt2} (ha : QA X W M ks [a, b] qs) (hc : X.calm = true) (hN : X.N.Nodup) (hi : X.N[i]? = some x := by rfl) (hj : X.N[j]? = some y := by rfl) (hij : i ≠ j := by decide)
    (hx : X.env.scope.names.lookup x = some .local := by rfl) (hy : X.env.scope.names.lookup y = some .local := by rfl) (hio : i ∉ IO := by decide) (hjo : j ∉ IO := by decide) (hk : (ks.all fun x => x.isNone) = true := by rfl)
    (hw : swappedStores [.Tuple [.Name x px, .Name y py] kt pt] (.Tuple [a, b] k2 pt2) X.env = pure (some [x, y]) := by rfl)
    (hs : swapsWithSole [.Tuple [.Name x px, .Name y py] kt pt] (.Tuple [a, b] k2 pt2) pos.line X.env = pure false := by rfl) :
    QS X W IO (.Assign [.Tuple [.Name x px, .Name y py] kt pt] (.Tuple [a, b] k2 pt2) pos) (sPar i j qs) :=
  ⟨PS_imp (ps_par (i := i) (j := j) hc hN hi hj hij hx hy ha.run hw hs) fun D σ H ⟨ow, env, De, s, hq, k⟩ => tA_data (m := 0) hk s hq k.ex.xk fun vs ds H' ow' env' y1 s' _ l1 r z => by
    match ds, r, z with
    | [d1, d2], .cons (v := v) r1 (.cons (v := w) r2 .nil), z =>
      refine ⟨v, w, rfl, ?_⟩
      obtain ⟨y2, s2⟩ := into_slot (i := i) s' (Tq.fz_.mpr r1 : Tq X.K H' ow' (.tm 0) v (.fz d1))
      obtain ⟨y3, s3⟩ := into_slot (i := j) s2 (Tq.fz_.mpr (r2.mono y2.bs) : Tq X.K H' _ (.tm 0) w (.fz d2))
      exact k.nx _ _ _ _ ((y1.fs.trans y2.fs).trans y3.fs) ((ios_set hio).trans (ios_set hjo)) s3 z⟩
end
end QV

set_option Elab.async false
set_option linter.all false
set_option maxRecDepth 100000
set_option maxHeartbeats 2000000
namespace QV
open PySem PySem.Spec PyProof.Rows L2
mutual
def D.px : D → PyData
  | .non => .none
  | .bl b => .bool b
  | .int i => .int i
  | .str x => .str x
  | .nd .tup ds => .tuple (Dpxs ds)
  | .nd .lst ds => .list (Dpxs ds)
  | .nd (.dK []) [] => .dict []
  | _ => .none
def Dpxs : List D → List PyData
  | [] => []
  | d :: ds => D.px d :: Dpxs ds
end
mutual
def D.pt : Nat → D → Bool
  | _, .non => true
  | _, .bl _ => true
  | _, .int _ => true
  | _, .str x => true
  | _ + 1, .nd (.dK []) [] => true
  | n + 1, .nd .tup ds => Dpts n ds
  | n + 1, .nd .lst ds => Dpts n ds
  | _, _ => false
def Dpts : Nat → List D → Bool
  | _, [] => true
  | n, d :: ds => D.pt n d && Dpts n ds
end
mutual
theorem px_depth : ∀ {n : Nat} (d : D), d.pt n = true → d.px.depth ≤ n
  | n, .non, _ => by simp [D.px, PyData.depth]
  | n, .bl b, _ => by simp [D.px, PyData.depth]
  | n, .int i, _ => by simp [D.px, PyData.depth]
  | n, .str x, _ => by simp [D.px, PyData.depth]
  | 0, .nd .tup ds, h => by simp [D.pt] at h
  | n + 1, .nd .tup ds, h => by
    have := pxs_depth (n := n) ds (by simpa [D.pt] using h)
    simp only [D.px, PyData.depth]
    omega
  | 0, .nd (.dK []) [], h => by simp [D.pt] at h
  | n + 1, .nd (.dK []) [], _ => by simp [D.px, PyData.depth, PyData.depthKv]
  | n, .nd (.dK (_ :: _)) _, h => by cases n <;> simp [D.pt] at h
  | n, .nd (.dK []) (_ :: _), h => by cases n <;> simp [D.pt] at h
  | 0, .nd .lst ds, h => by simp [D.pt] at h
  | n + 1, .nd .lst ds, h => by
    have := pxs_depth (n := n) ds (by simpa [D.pt] using h)
    simp only [D.px, PyData.depth]
    omega
  | n, .nd (.dT _) _, h => by cases n <;> simp [D.pt] at h
  | n, .nd (.lkT _ _) _, h => by cases n <;> simp [D.pt] at h
  | n, .nd (.lsA _) _, h => by cases n <;> simp [D.pt] at h
  | n, .nd (.ins _ _) _, h => by cases n <;> simp [D.pt] at h
  | n, .scr _, h => by cases n <;> simp [D.pt] at h
  | n, .exc _ _ _ _ _, h => by cases n <;> simp [D.pt] at h
theorem pxs_depth : ∀ {n : Nat} (ds : List D), Dpts n ds = true → PyData.depthAll (Dpxs ds) ≤ n
  | n, [], _ => by simp [Dpxs, PyData.depthAll]
  | n, d :: ds, h => by
    have h' : D.pt n d = true ∧ Dpts n ds = true := by simpa [Dpts] using h
    have := px_depth d h'.1
    have := pxs_depth ds h'.2
    simp only [Dpxs, PyData.depthAll]
    omega
end
mutual
theorem shrx_ok : ∀ d : D, shrt d = true → d.px.leavesShort 41 = true ∧ d.px.showable = true ∧ d.px.weight ≤ szD d
  | .non, _ => ⟨rfl, rfl, by simp [D.px, PyData.weight]⟩
  | .bl _, _ => ⟨rfl, rfl, by simp [D.px, PyData.weight]⟩
  | .int i, h => by
    have h' : i.natAbs < 10000000000000000000000000000000000000000 := by simpa [shrt] using h
    refine ⟨?_, ?_, ?_⟩
    · simp only [D.px, PyData.leavesShort, decide_eq_true_eq]
      have e := int_text_length_le10 (k := 40) (by decide) (show i.natAbs < 10 ^ 40 by omega)
      have e2 : (PyData.int i).shown.length = (toString i).length := by
        rw [PyData.shown_int]
        exact PySem.ofString_length _
      rw [e2]
      exact e
    · simp only [D.px, PyData.showable, decide_eq_true_eq]
      have := log2_40 h'
      omega
    · simp only [D.px, PyData.weight, szD]
      have := log2_40 h'
      split <;> omega
  | .str x, h => by
    refine ⟨by simpa [D.px, PyData.leavesShort, shrt] using h, rfl, by simp [D.px, PyData.weight, szD]⟩
  | .scr _, _ => ⟨rfl, rfl, by simp [D.px, PyData.weight]⟩
  | .exc _ _ _ _ _, _ => ⟨rfl, rfl, by simp [D.px, PyData.weight]⟩
  | .nd .lst ds, h => by
    obtain ⟨a, b, c⟩ := shrxs_ok ds (by simpa [shrt] using h)
    exact ⟨by simpa [D.px, PyData.leavesShort] using a, by simpa [D.px, PyData.showable] using b, by simpa [D.px, PyData.weight, szD] using c⟩
  | .nd .tup ds, h => by
    obtain ⟨a, b, c⟩ := shrxs_ok ds (by simpa [shrt] using h)
    exact ⟨by simpa [D.px, PyData.leavesShort] using a, by simpa [D.px, PyData.showable] using b, by simpa [D.px, PyData.weight, szD] using c⟩
  | .nd (.dK []) [], _ => ⟨rfl, rfl, by simp [D.px, PyData.weight, PyData.weightKv]⟩
  | .nd (.dK []) (_ :: _), _ => ⟨rfl, rfl, by simp [D.px, PyData.weight]⟩
  | .nd (.dK (_ :: _)) ds, _ => ⟨rfl, rfl, by simp [D.px, PyData.weight]⟩
  | .nd (.dT _) ds, _ => ⟨rfl, rfl, by simp [D.px, PyData.weight]⟩
  | .nd (.lkT _ _) ds, _ => ⟨rfl, rfl, by simp [D.px, PyData.weight]⟩
  | .nd (.lsA _) ds, _ => ⟨rfl, rfl, by simp [D.px, PyData.weight]⟩
  | .nd (.ins _ _) ds, _ => ⟨rfl, rfl, by simp [D.px, PyData.weight]⟩
theorem shrxs_ok : ∀ ds : List D, shrts ds = true → PyData.leavesShortAll 41 (Dpxs ds) = true ∧ PyData.showableAll (Dpxs ds) = true ∧ PyData.weightAll (Dpxs ds) ≤ szDs ds
  | [], _ => ⟨rfl, rfl, by simp [Dpxs, PyData.weightAll]⟩
  | d :: ds, h => by
    have h' : shrt d = true ∧ shrts ds = true := by simpa [shrts] using h
    obtain ⟨a, b, c⟩ := shrx_ok d h'.1
    obtain ⟨a', b', c'⟩ := shrxs_ok ds h'.2
    exact ⟨by simp [Dpxs, PyData.leavesShortAll, a, a'], by simp [Dpxs, PyData.showableAll, b, b'], by simp only [Dpxs, PyData.weightAll, szDs]; omega⟩
end
theorem pts_all {n : Nat} : ∀ {ds : List D}, (∀ d, d ∈ ds → d.pt n = true) → Dpts n ds = true
  | [], _ => by simp [Dpts]
  | d :: ds, h => by simp only [Dpts, Bool.and_eq_true]; exact ⟨h d (by simp), pts_all fun e he => h e (by simp [he])⟩
theorem pt_lst {n : Nat} {ds : List D} (h : ∀ d, d ∈ ds → d.pt n = true) : (D.nd .lst ds).pt (n + 1) = true := by rw [D.pt]; exact pts_all h
theorem pt_tup {n : Nat} {ds : List D} (h : ∀ d, d ∈ ds → d.pt n = true) : (D.nd .tup ds).pt (n + 1) = true := by rw [D.pt]; exact pts_all h
def Sys (h : Heap) : Prop := ∃ o, h.get? sysModules = some o
section
variable {X : Cx} {pins : List (Addr × Obj)} {σ : L2.St} {H : Hp} {s : Shared}
theorem H_sys (hS : Sys X.base) (I : Inv X pins σ H s) : H sysModules = none := let ⟨o, e⟩ := hS; (I.bs _ o e).2
mutual
theorem px_reads (hS : Sys X.base) (I : Inv X pins σ H s) : ∀ {n : Nat} (d : D) (v : V) (u : Value), Rp X.K H v d → d.pt n = true → RelV v u → ∃ as, Reads s.heap u d.px as ∧ sysModules ∉ as
  | n, .non, _, _, h, _, r => by cases h; cases r; exact ⟨_, Reads.none, by simp⟩
  | n, .bl b, _, _, h, _, r => by cases h; cases r; exact ⟨_, Reads.bool b, by simp⟩
  | n, .int i, _, _, h, _, r => by cases h; obtain ⟨t, rfl⟩ := r; exact ⟨_, Reads.int i t, by simp⟩
  | n, .str x, _, _, h, _, r => by cases h; obtain ⟨t, rfl⟩ := r; exact ⟨_, Reads.str x t, by simp⟩
  | 0, .nd .tup ds, _, _, _, h, _ => by simp [D.pt] at h
  | n + 1, .nd .tup ds, _, _, h, k, r => by
    cases h with
    | tup c z rr =>
      cases r
      obtain ⟨its, rv, ⟨o, ho, hc, m, hd⟩, _⟩ := I.tuple (sqT_of c)
      obtain ⟨as, hr, hn⟩ := pxs_reads hS I (n := n) ds _ its rr (by simpa [D.pt] using k) rv
      exact ⟨_, Reads.tuple ho hc hd hr, hn⟩
    | cell hn _ _ => exact absurd rfl hn
  | n, .nd (.dK []) [], _, _, h, k, r => by
    cases h with
    | cell _ c rr =>
      cases rr
      cases r
      obtain ⟨_, hs, vs, kv, o, es, ep, h1, h2, h3, _, h5, _⟩ := dk_of I.hok c.at_
      have e0 : vs = [] := by
        have := kv.length
        simp at this
        exact List.eq_nil_of_length_eq_zero this.symm
      subst e0
      have e1 : es.toList = [] := by
        generalize es.toList = l at h5
        cases h5
        rfl
      refine ⟨_, Reads.dict (kvs := []) h1 h2.1 h3 (by rw [e1]; exact .nil) (by rw [e1]; exact .nil), ?_⟩
      simp
      intro z
      rw [← z] at hs
      simp at hs
  | n, .nd (.dK (_ :: _)) _, _, _, _, h, _ => by cases n <;> simp [D.pt] at h
  | n, .nd (.dK []) (_ :: _), _, _, _, h, _ => by cases n <;> simp [D.pt] at h
  | 0, .nd .lst ds, _, _, _, h, _ => by simp [D.pt] at h
  | n + 1, .nd .lst ds, _, _, h, k, r => by
    cases h with
    | cell _ c rr =>
      cases r
      obtain ⟨its, rv, ⟨o, m, ho, hc, _, hd⟩, _⟩ := I.list (.inl (.inl c.at_))
      obtain ⟨as, hr, hn⟩ := pxs_reads hS I (n := n) ds _ its rr (by simpa [D.pt] using k) rv
      refine ⟨_, Reads.list ho hc hd hr, ?_⟩
      have hs := c.at_
      simp only [List.mem_cons, not_or]
      refine ⟨fun z => ?_, hn⟩
      rw [← z, H_sys hS I] at hs
      cases hs
  | n, .nd (.dT _) _, _, _, _, h, _ => by cases n <;> simp [D.pt] at h
  | n, .nd (.lkT _ _) _, _, _, _, h, _ => by cases n <;> simp [D.pt] at h
  | n, .nd (.lsA _) _, _, _, _, h, _ => by cases n <;> simp [D.pt] at h
  | n, .nd (.ins _ _) _, _, _, _, h, _ => by cases n <;> simp [D.pt] at h
  | n, .scr _, _, _, _, h, _ => by cases n <;> simp [D.pt] at h
  | n, .exc _ _ _ _ _, _, _, _, h, _ => by cases n <;> simp [D.pt] at h
theorem pxs_reads (hS : Sys X.base) (I : Inv X pins σ H s) : ∀ {n : Nat} (ds : List D) (vs : List V) (us : List Value), Rps X.K H vs ds → Dpts n ds = true → Vals vs us → ∃ as, ReadsAll s.heap us (Dpxs ds) as ∧ sysModules ∉ as
  | n, [], _, _, h, _, r => by cases h; cases r; exact ⟨_, ReadsAll.nil, by simp⟩
  | n, d :: ds, _, _, h, k, r => by
    cases h with
    | cons h1 h2 =>
      cases r with
      | cons r1 r2 =>
        have k' : D.pt n d = true ∧ Dpts n ds = true := by simpa [Dpts] using k
        obtain ⟨as, q1, n1⟩ := px_reads hS I d _ _ h1 k'.1 r1
        obtain ⟨bs, q2, n2⟩ := pxs_reads hS I ds _ _ h2 k'.2 r2
        exact ⟨_, ReadsAll.cons q1 q2, by simp [n1, n2]⟩
end
end
section
variable {P : Program} {w : World} {K : PySem.W.Frag} {mg mb : Str → Option Value} {k : Nat} {fa a : Addr} {p1 : Str} {sp : Sp} {st : Shared}
end
end QV

set_option Elab.async false
set_option linter.all false
set_option maxRecDepth 100000
set_option maxHeartbeats 2000000
namespace QV
open PySem PySem.Spec PyProof.Rows L2
section
variable {X : Cx} {W : WX} {M : List Nat} {a : Expr} {pa : SemP} {ra : Option Nat} {x : Str} {p pos : Pos}
theorem q_globS {s : Str} (hg : Gl X x) (hm : ∃ t, X.mg x = some (.str s t)) (hd : (x == ("__debug__" : Str)) = false := by decide) : QE X W [] (.Name x pos) (sC (.str s)) :=
  let ⟨t, h⟩ := hm
  q_const (pe_glob (v := .str s) hg h ⟨t, rfl⟩ hd) fun _ => .str s
def GlobT (K : PySem.W.Frag) (mg : Str → Option Value) (x : Str) (xs : List Str) : Prop := ∃ g : Addr, mg x = some (.ref g) ∧ ∀ H : Hp, SqT K H g (xs.map V.str)
theorem globT_of {K : PySem.W.Frag} {h : Heap} {mg : Str → Option Value} {x s1 s2 s3 : Str} {t1 t2 t3 : Tok} {a : Addr} {d : Option Addr} {n : Nat} {sl : Array (Option Value)} (X : K.In h) (G : h.Ns mainGlobals mg) (y : PySem.W.nsIn K mainGlobals x = some (some (.ref a)))
    (k : K.lookup a = some ⟨.type "tuple", d, .seq #[.str s1 t1, .str s2 t2, .str s3 t3] n, sl⟩) : GlobT K mg x [s1, s2, s3] :=
  ⟨a, PySem.W.mg_of X G y, fun H => .inr ⟨_, _, _, k, rfl, rfl, (by rw [sizeLine_eq]; show (3 : Nat) ≤ 16777216; decide), .cons ⟨t1, rfl⟩ (.cons ⟨t2, rfl⟩ (.cons ⟨t3, rfl⟩ .nil))⟩⟩
def inGT (xs : List Str) (t : T) (Q : T → Prop) : Prop := ∃ s : Str, t = .fz (.str s) ∧ Q (.fz (.bl (xs.any fun y => eqV (.str y) (.str s))))
theorem q_inGT {xs : List Str} (hg : Gl X x) (hm : GlobT X.K X.mg x xs) (ha : QP X W M ra a pa) (hd : (x == ("__debug__" : Str)) = false := by decide) : QE X W M (.Compare a [.In] [.Name x p] pos) (s1 pa (inGT xs)) :=
  let ⟨g, h, hs⟩ := hm
  have hr : Op1 X.K (fun y H Q => rIn X.K false y (.ref g) H Q) (inGT xs) := by
    intro H ow n v t Q Qv rx ⟨s, e, q⟩ k
    subst e
    have r := rx.rd
    cases r
    refine ⟨g, xs.map V.str, rfl, .inr (hs H), rfl, by simp [flatV], ?_⟩
    have e : inV (.str s) (xs.map V.str) = xs.any fun y => eqV (.str y) (.str s) := by simp [inV, List.any_map, Function.comp_def]
    simp only [Bool.false_eq_true, if_false]
    rw [e]
    exact k _ _ H ow Stp.refl (Tq.fz_.mpr (.bl _)) q
  ⟨PE_imp (pe_cmpR op_in_seq ha.run (pe_glob (v := .ref g) hg h rfl hd) (by rfl)) fun σ H Qv ⟨n, ow, env, Q, E, s, hq, k, xx⟩ => ⟨n, ow, env, _, E, s, hq, fun v t pt H' ow' env' y1 s' o r q => hr H' ow' n v t _ Qv (r.ro s') q fun v' w H2 ow2 y2 r3 q3 =>
    k v' w H2 ow2 env' (y1.trans y2 (fun _ h => h) nilsub (Nat.le_refl _) (Nat.le_refl _)) (s'.stp0 y2) o r3 q3, xx⟩⟩
end
end QV

set_option Elab.async false
set_option linter.all false
set_option maxRecDepth 100000
set_option maxHeartbeats 2000000
namespace QV
open PySem PySem.Spec PyProof.Rows L2
section
variable {K : PySem.W.Frag} {H : Hp} {ow : Ow}
end
section
variable {X : Cx} {W : WX} {Ma Mb Mc : List Nat} {a b c tg : Expr} {qa qb qc : SemE} {p pos : Pos}
end
end QV

set_option Elab.async false
set_option linter.all false
set_option maxRecDepth 100000
set_option maxHeartbeats 2000000
namespace QV
open PySem PySem.Spec PyProof.Rows L2
section
variable {X : Cx} {W : WX} {M Ma Mb IO : List Nat} {e o ix : Expr} {q qi : SemE} {pa : SemP} {ra : Option Nat} {C : Addr} {x : Str} {pos tpos : Pos}
end
section
variable {κ : Type} [DecidableEq κ] {α : Type}
def hasG (ks : List κ) (k : κ) : Bool := ks.any fun x => decide (x = k)
def pKs (ks : List κ) (k : κ) : List κ := if hasG ks k = true then ks else ks ++ [k]
def pVs (ks : List κ) (vs : List α) (k : κ) (v : α) : List α := if hasG ks k = true then (ks.zip vs).map (fun p => if p.1 = k then v else p.2) else vs ++ [v]
theorem zipG_any {k : κ} : ∀ {ks : List κ} {vs : List α}, ks.length = vs.length → ((ks.zip vs).any fun kv => decide (kv.1 = k)) = hasG ks k
  | [], [], _ => rfl
  | k0 :: ks, v0 :: vs, h => by
    have ih := zipG_any (k := k) (ks := ks) (vs := vs) (by simpa using h)
    unfold hasG at ih ⊢
    rw [List.zip_cons_cons, List.any_cons, List.any_cons, ih]
theorem zipG_map {k : κ} {v : α} : ∀ {ks : List κ} {vs : List α}, ks.length = vs.length → (ks.zip vs).map (fun kv => if kv.1 = k then (kv.1, v) else kv) = ks.zip ((ks.zip vs).map fun p => if p.1 = k then v else p.2)
  | [], [], _ => rfl
  | k0 :: ks, v0 :: vs, h => by
    rw [List.zip_cons_cons, List.map_cons, List.map_cons, List.zip_cons_cons, zipG_map (by simpa using h)]
    by_cases e : k0 = k <;> simp [e]
theorem putG_zip {k : κ} {ks : List κ} {vs : List V} {v : V} (h : ks.length = vs.length) : putK (ks.zip vs) k v = (pKs ks k).zip (pVs ks vs k v) := by
  unfold putK pKs pVs
  rw [zipG_any h]
  by_cases e : hasG ks k = true
  · rw [if_pos e, if_pos e, if_pos e]
    exact zipG_map h
  · rw [if_neg e, if_neg e, if_neg e, List.zip_append h]
    rfl
variable {K : PySem.W.Frag} {B : Hp}
end
def isDk : T → Bool
  | .ow (.dK _) _ => true
  | .ow (.dT _) _ => true
  | _ => false
section
variable {X : Cx} {W : WX} {M Ma Mb IO : List Nat} {e o ix : Expr} {q qi : SemE} {pa : SemP} {pos tpos : Pos}
end
end QV

set_option Elab.async false
set_option linter.all false
set_option maxRecDepth 100000
set_option maxHeartbeats 4000000
namespace QV
open PySem PySem.Spec PyProof.Rows L2
section
variable {X : Cx} {W : WX} {M : List Nat} {e : Expr} {pa : SemP} {root : Option Nat} {p p2 pos pos2 : Pos}
end
end QV

set_option Elab.async false
set_option linter.all false
set_option maxRecDepth 100000
set_option maxHeartbeats 2000000
namespace QV
open PySem PySem.Spec PyProof.Rows L2
section
variable {X : Cx} {W : WX} {M Ma Mb IO : List Nat} {k : Nat} {f C : Addr} {fd : FuncData} {ps : List Str} {io : List Nat} {sp : Sp} {spec : SemF} {ks : List (Option Nat)} {e : Expr} {es : List Expr} {q : SemE} {qs : SemD} {m x : Str} {px p pos apos : Pos}
end
section
variable {X : Cx} {W : WX} {M IO : List Nat} {C : Addr} {e : Expr} {q : SemE} {x m : Str} {px tpos pos : Pos}
end
end QV

set_option Elab.async false
set_option linter.all false
set_option maxRecDepth 100000
set_option maxHeartbeats 2000000
namespace L2
open PySem PySem.Spec PyProof.Rows
section
variable {X : Cx}
end
end L2
namespace QV
open PySem PySem.Spec PyProof.Rows L2
section
variable {κ : Type} [DecidableEq κ] {α : Type}
variable {K : PySem.W.Frag} {B : Hp}
end
section
variable {X : Cx} {W : WX} {Ma Mb : List Nat} {e o : Expr} {pa : SemP} {q : SemE}
end
end QV

set_option Elab.async false
set_option linter.all false
set_option maxRecDepth 100000
set_option maxHeartbeats 2000000
namespace QV
open PySem PySem.Spec PyProof.Rows L2
mutual
def T.sub : T → List Nat → Option T
  | t, [] => some t
  | .nd _ ts, j :: p => Tsub ts j p
  | _, _ :: _ => none
def Tsub : List T → Nat → List Nat → Option T
  | [], _, _ => none
  | t :: _, 0, p => T.sub t p
  | _ :: ts, j + 1, p => Tsub ts j p
end
theorem Tsub_get : ∀ {ts : List T} {j : Nat} {p : List Nat} {t : T}, Tsub ts j p = some t → ∃ t1, ts[j]? = some t1 ∧ T.sub t1 p = some t
  | [], _, _, _, h => by cases h
  | t1 :: _, 0, _, _, h => ⟨t1, rfl, h⟩
  | _ :: ts, j + 1, p, t, h => by
    obtain ⟨t1, e, h'⟩ := Tsub_get (ts := ts) (j := j) h
    exact ⟨t1, by simpa using e, h'⟩
theorem sub_of {K : PySem.W.Frag} {H : Hp} {ow : Ow} {l : Lab} : ∀ {p : List Nat} {t0 t : T} {v0 : V}, T.sub t0 p = some t → Tq K H ow l v0 t0 → ∃ v, Sub K H ow l v0 t0 p v t
  | [], t0, t, v0, h, r => by
    have : t0 = t := by cases t0 <;> exact Option.some.inj h
    subst this
    exact ⟨v0, .nil⟩
  | j :: p, t0, t, v0, h, ⟨S, r⟩ => by
    cases r with
    | fz _ => cases h
    | ow _ _ _ => cases h
    | nd c f r =>
      obtain ⟨t1, e1, h1⟩ := Tsub_get (show Tsub _ j p = some t from h)
      have lt := (List.getElem?_eq_some_iff.mp e1).1
      rw [← r.len] at lt
      have ev := List.getElem?_eq_getElem lt
      obtain ⟨S1, r1⟩ := r.get ev e1
      obtain ⟨v, sb⟩ := sub_of h1 ⟨S1, r1⟩
      exact ⟨v, .cons c (fun b fb => (f b fb).1) ev e1 sb⟩
section
variable {X : Cx} {W : WX} {M : List Nat} {e : Expr} {q : SemE}
end
def keyT (k : List Key) : D := .nd .tup (k.map keyOf)
section
variable {X : Cx} {W : WX} {M : List Nat} {e : Expr} {pa : SemP} {root : Option Nat} {p pos : Pos}
end
end QV

set_option Elab.async false
set_option linter.all false
set_option maxRecDepth 100000
set_option maxHeartbeats 2000000
namespace QV
open PySem PySem.Spec PyProof.Rows L2
section
variable {K : PySem.W.Frag} {H : Hp} {ow : Ow} {σ : L2.St} {env : Env} {i : Nat} {v0 v : V} {t0 : T} {p : List Nat} {ds : List D} {l : Lab}
theorem kind_swapS {k : Kd} (k' : Addr → Kd) (s : StOk K H ow σ env) (ev : σ[i]? = some (some v0)) (e0 : env[i]? = some (some t0)) (sb : Sub K H ow (.sl i) v0 t0 p v (.ow k ds)) (hk : ∀ a dx vs, Cell H a dx k vs → Cell H a a (k' a) vs) (hf : ∀ a b, Foot a a (k' a) b → b = a) :
    ∃ (a dx : Addr) (vs : List V), v = V.ref a ∧ Cell H a dx k vs ∧ Rps K (Bs H ow) vs ds ∧ StOk K H ow σ (env.set i (some (t0.put p (.ow (k' a) ds)))) := by
  obtain ⟨w0, ew, S0, r0⟩ := s.at_ i t0 e0
  rw [ev] at ew
  cases ew
  obtain ⟨St, rt, subS, go⟩ := sb.put r0
  cases rt with
  | @ow a dx _ vs _ c f r =>
    have oa : ow a = .sl i := f a foot_a
    have il : i < env.length := (List.getElem?_eq_some_iff.mp e0).1
    have same : Same (Bs H ow) (Bs H ow) := fun _ _ e => e
    obtain ⟨S4, r4, _⟩ := go H ow (.ow (k' a) ds) (Foot a a (k' a)) same (fun b o hb nb g1 g2 => ⟨g1, g2⟩)
      (.ow (dx := a) (hk _ _ _ c) (fun b fb => by rw [hf a b fb]; exact oa) r) (fun b hb _ => by
        have := hf a b hb
        subst this
        exact foot_a)
    refine ⟨a, dx, vs, rfl, c, r, ⟨by rw [List.length_set]; exact s.len, fun j t e => ?_⟩⟩
    by_cases hj : j = i
    · subst hj
      rw [List.getElem?_set_self il] at e
      cases e
      exact ⟨v0, ev, S4, r4⟩
    · rw [List.getElem?_set_ne (Ne.symm hj)] at e
      exact s.at_ j t e
end
section
variable {X : Cx} {W : WX} {M : List Nat} {e : Expr} {pa : SemP} {x : Str} {pos : Pos}
end
mutual
def okE : D → Bool
  | .nd .tup ds => okEs ds
  | .nd .lst [] => true
  | .nd .lst (d :: ds) => flD0 d && okEs (d :: ds)
  | d => flD0 d
def okEs : List D → Bool
  | [] => true
  | d :: ds => okE d && okEs ds
end
mutual
def okET : T → Bool
  | .fz d => okE d
  | .ow _ ds => okEs ds
  | .nd _ ts => okETs ts
def okETs : List T → Bool
  | [] => true
  | t :: ts => okET t && okETs ts
end
def badE (o : HO) : Prop := ∃ (a : Addr) (vs : List V), o = .lst (.ref a :: vs)
section
variable {K : PySem.W.Frag} {B B' : Hp}
mutual
theorem rp_keepE (e : ∀ a o, B a = some o → ¬ badE o → B' a = some o) : ∀ {v : V} {d : D}, Rp K B v d → okE d = true → Rp K B' v d
  | _, _, .non, _ => .non
  | _, _, .bl b, _ => .bl b
  | _, _, .int i, _ => .int i
  | _, _, .str x, _ => .str x
  | _, _, .scr _, h => by simp [okE, flD0] at h
  | _, _, .exc0 _ _, h => by simp [okE, flD0] at h
  | _, _, .exc1 _ _ _, h => by simp [okE, flD0] at h
  | _, _, .tup c z r, h => .tup (e _ _ c fun ⟨_, _, q⟩ => nomatch q) z (rps_keepE e r (by simpa [okE] using h))
  | _, _, .cell (k := k) (vs := vs) (ds := ds) hk c r, h => by
    cases k with
    | lst =>
      have hb : ¬ badE (.lst vs) := fun ⟨a0, vs0, q⟩ => by
        have q : vs = .ref a0 :: vs0 := by cases q; rfl
        subst q
        cases r with
        | cons r0 rs =>
          simp only [okE, Bool.and_eq_true] at h
          exact rp_nref r0 h.1 a0 rfl
      refine .cell hk ⟨e _ _ c.at_ hb, c.sz, trivial⟩ (rps_keepE e r ?_)
      cases ds with
      | nil => rfl
      | cons d ds => simp only [okE, Bool.and_eq_true] at h; exact h.2
    | tup => exact absurd rfl hk
    | dK ks => simp [okE, flD0] at h
    | dT ks => simp [okE, flD0] at h
    | lkT o ks => simp [okE, flD0] at h
    | lsA b => simp [okE, flD0] at h
    | ins C ks => simp [okE, flD0] at h
theorem rps_keepE (e : ∀ a o, B a = some o → ¬ badE o → B' a = some o) : ∀ {vs : List V} {ds : List D}, Rps K B vs ds → okEs ds = true → Rps K B' vs ds
  | _, _, .nil, _ => .nil
  | _, _, .cons r s, h => by
    simp only [okEs, Bool.and_eq_true] at h
    exact .cons (rp_keepE e r h.1) (rps_keepE e s h.2)
end
mutual
theorem Tp.carE {H H' : Hp} {ow ow' : Ow} {l l' : Lab} (e : ∀ a o, Bs H ow a = some o → ¬ badE o → Bs H' ow' a = some o) : ∀ {v : V} {t : T} {S : Addr → Prop}, okET t = true → (∀ a o, S a → H a = some o → ow a = l → H' a = some o ∧ ow' a = l') → Tp K H ow l v t S → Tp K H' ow' l' v t S
  | _, _, _, h, _, .fz r => .fz (rp_keepE e r (by simpa [okET] using h))
  | _, _, _, h, k, .ow c f r => .ow (c.at_same fun b o fb q => (k b o fb q (f b fb)).1) (fun b fb => let ⟨o, q⟩ := c.there fb; (k b o fb q (f b fb)).2) (rps_keepE e r (by simpa [okET] using h))
  | _, _, _, h, k, .nd c f r => .nd (c.at_same fun b o fb q => (k b o (.inl fb) q (f b fb).1).1)
      (fun b fb => let ⟨o, q⟩ := c.there fb; ⟨(k b o (.inl fb) q (f b fb).1).2, (f b fb).2⟩) (Tps.carE e (by simpa [okET] using h) (fun b o s => k b o (.inr s)) r)
theorem Tps.carE {H H' : Hp} {ow ow' : Ow} {l l' : Lab} (e : ∀ a o, Bs H ow a = some o → ¬ badE o → Bs H' ow' a = some o) : ∀ {v : List V} {t : List T} {S : Addr → Prop}, okETs t = true → (∀ a o, S a → H a = some o → ow a = l → H' a = some o ∧ ow' a = l') → Tps K H ow l v t S → Tps K H' ow' l' v t S
  | _, _, _, _, _, .nil => .nil
  | _, t :: ts, _, h, k, .cons r s d => by
    have h' : okET t = true ∧ okETs ts = true := by simpa [okETs] using h
    exact .cons (Tp.carE e h'.1 (fun b o q => k b o (.inl q)) r) (Tps.carE e h'.2 (fun b o q => k b o (.inr q)) s) d
end
end
open Classical in
noncomputable def labX (io cs : List Nat) (C : Addr → Prop) (ow : Ow) : Ow := fun a => if C a then .base else labIn io cs (ow a)
open Classical in
noncomputable def labBX (io cs : List Nat) (m : Nat) (C : Addr → Prop) (ow owc : Ow) : Ow := fun a => if C a ∧ owc a = .base then ow a else labBack io cs m (ow a) (owc a)
section
variable {X : Cx} {W : WX} {M : List Nat} {k : Nat} {f : Addr} {fd : FuncData} {ps : List Str} {io cs : List Nat} {spec : SemF} {ks : List (Option Nat)} {e : Expr} {es : List Expr} {qs : SemD} {x : Str} {p pos : Pos}
end
section
variable {X : Cx} {W : WX} {M Mb : List Nat} {k : Nat} {es : List Expr} {qs : SemAT} {x : Str} {pos : Pos}
end
end QV

set_option Elab.async false
set_option linter.all false
set_option maxRecDepth 100000
set_option maxHeartbeats 2000000
namespace QV
open PySem PySem.Spec PyProof.Rows L2
def T.rek (k' : Kd) : T → T
  | .ow _ ds => .ow k' ds
  | .nd _ ts => .nd k' ts
  | .fz d => .fz d
def rootA (a : Addr) : T → Prop
  | .ow (.lsA b) _ => b = a
  | .nd (.lsA b) _ => b = a
  | _ => False
def vw : T → T
  | .ow (.lsA _) ds => .ow .lst ds
  | .nd (.lsA _) ts => .nd .lst ts
  | t => t
section
variable {K : PySem.W.Frag} {H : Hp} {ow : Ow} {σ : L2.St} {env : Env} {i : Nat} {v0 v : V} {t0 : T} {p : List Nat} {ds : List D} {l : Lab}
theorem kind_swapN {k : Kd} {ts : List T} (k' : Addr → Kd) (s : StOk K H ow σ env) (ev : σ[i]? = some (some v0)) (e0 : env[i]? = some (some t0)) (sb : Sub K H ow (.sl i) v0 t0 p v (.nd k ts)) (hk : ∀ a dx vs, Cell H a dx k vs → Cell H a a (k' a) vs) (hf : ∀ a b, Foot a a (k' a) b → b = a) :
    ∃ (a dx : Addr) (vs : List V), v = V.ref a ∧ Cell H a dx k vs ∧ StOk K H ow σ (env.set i (some (t0.put p (.nd (k' a) ts)))) := by
  obtain ⟨w0, ew, S0, r0⟩ := s.at_ i t0 e0
  rw [ev] at ew
  cases ew
  obtain ⟨St, rt, subS, go⟩ := sb.put r0
  cases rt with
  | @nd a dx _ vs _ S c f r =>
    have oa : ow a = .sl i := (f a foot_a).1
    have il : i < env.length := (List.getElem?_eq_some_iff.mp e0).1
    have same : Same (Bs H ow) (Bs H ow) := fun _ _ e => e
    obtain ⟨S4, r4, _⟩ := go H ow (.nd (k' a) ts) (fun b => Foot a a (k' a) b ∨ S b) same (fun b o hb nb g1 g2 => ⟨g1, g2⟩)
      (.nd (dx := a) (hk _ _ _ c) (fun b fb => by rw [hf a b fb]; exact ⟨oa, (f a foot_a).2⟩) r) (fun b hb _ => by
        rcases hb with z | z
        · have := hf a b z
          subst this
          exact .inl foot_a
        · exact .inr z)
    refine ⟨a, dx, vs, rfl, c, ⟨by rw [List.length_set]; exact s.len, fun j t e => ?_⟩⟩
    by_cases hj : j = i
    · subst hj
      rw [List.getElem?_set_self il] at e
      cases e
      exact ⟨v0, ev, S4, r4⟩
    · rw [List.getElem?_set_ne (Ne.symm hj)] at e
      exact s.at_ j t e
theorem kind_swapT {k : Kd} {t : T} {ts : List T} (k' : Addr → Kd) (s : StOk K H ow σ env) (ev : σ[i]? = some (some v0)) (e0 : env[i]? = some (some t0)) (sb : Sub K H ow (.sl i) v0 t0 p v t) (ek : t.kids = some (k, ts)) (hk : ∀ a dx vs, Cell H a dx k vs → Cell H a a (k' a) vs) (hf : ∀ a b, Foot a a (k' a) b → b = a) :
    ∃ (a dx : Addr) (vs : List V), v = V.ref a ∧ Cell H a dx k vs ∧ StOk K H ow σ (env.set i (some (t0.put p (t.rek (k' a))))) := by
  cases t with
  | fz d => cases ek
  | ow k0 ds =>
    cases ek
    obtain ⟨a, dx, vs, h1, h2, _, h3⟩ := kind_swapS k' s ev e0 sb hk hf
    exact ⟨a, dx, vs, h1, h2, h3⟩
  | nd k0 ts0 =>
    cases ek
    exact kind_swapN k' s ev e0 sb hk hf
theorem Cell.vwC {a dx : Addr} {b : Addr} {vs : List V} (c : Cell H a dx (.lsA b) vs) : Cell H a a .lst vs := ⟨c.at_, c.sz, trivial⟩
theorem Tp.vw {v : V} {t : T} {S : Addr → Prop} (h : Tp K H ow l v t S) : ∃ S', Tp K H ow l v (vw t) S' := by
  unfold QV.vw
  split
  · cases h with
    | ow c f r => exact ⟨_, .ow (dx := _) c.vwC (fun b fb => f b fb) r⟩
  · cases h with
    | nd c f r => exact ⟨_, .nd (dx := _) c.vwC (fun b fb => f b fb) r⟩
  · exact ⟨S, h⟩
theorem Ro.vw {x : V} {t : T} (h : Ro K H ow x t) : Ro K H ow x (vw t) := let ⟨l, S, h⟩ := h; ⟨l, h.vw⟩
theorem Op1.vw {r : V → Hp → VK → Prop} {g : T → (T → Prop) → Prop} (h : Op1 K r g) : Op1 K r (fun t Q => g (vw t) Q) := fun H ow n x t Q Qv rx hg k => h H ow n x _ Q Qv rx.vw hg k
theorem Op2.vw {r : R2} {g : T → T → (T → Prop) → Prop} (h : Op2 K r g) : Op2 K r (fun t u Q => g (vw t) u Q) := fun H ow n x y t u Q Qv rx ry hg k => h H ow n x y _ _ Q Qv rx.vw ry hg k
theorem rootA_kids {a : Addr} {t : T} (h : rootA a t) : ∃ ts, t.kids = some (.lsA a, ts) := by
  unfold rootA at h
  split at h
  · subst h; exact ⟨_, rfl⟩
  · subst h; exact ⟨_, rfl⟩
  · exact h.elim
end
def sAliasN (r : Nat) (pa : SemP) : SemE := fun env Q E => pa env (fun t pt env1 => isL t = true ∧ match env1[r]? with
  | some (some t0) => ∀ a : Addr, Q (.fz (.exc a 0 none [] [])) (env1.set r (some (t0.put pt (t.rek (.lsA a)))))
  | _ => False) E
def sAlV (j r : Nat) : SemP := fun env Q _ => ∃ (pt : List Nat) (a : Addr) (t' t0 : T), env[j]? = some (some (.fz (.exc a 0 none [] []))) ∧ env[r]? = some (some t0) ∧ T.sub t0 pt = some t' ∧ rootA a t' ∧ Q t' pt env
def sForget (r : Nat) (q : SemE) : SemE := fun env Q E => q env (fun t env1 => ∃ (pt : List Nat) (a : Addr) (t' t0 : T), env1[r]? = some (some t0) ∧ T.sub t0 pt = some t' ∧ rootA a t' ∧ Q t (env1.set r (some (t0.put pt (t'.rek .lst))))) E
def sFrzP (r : Nat) (pa : SemP) : SemE := fun env Q E => pa env (fun t pt env1 => ∃ t0, env1[r]? = some (some t0) ∧ T.sub t0 pt = some t ∧ Q (.fz t.d) (env1.set r (some (t0.put pt (.fz t.d))))) E
def ixV (t u : T) (pt : List Nat) (Q : T → List Nat → Prop) : Prop := match t, u with
  | .nd (.lsA _) ts, .fz (.int i) => ∃ j, ixN ts.length i = some j ∧ ∃ t', ts[j]? = some t' ∧ Q t' (pt ++ [j])
  | _, _ => False
def sPixV (pa pb : SemP) : SemP := fun env Q E => pa env (fun t pt env1 => pb env1 (fun u _ env2 => ixV t u pt fun t' pt' => Q t' pt' env2) E) E
def isA : T → Bool
  | .ow (.lsA _) _ => true
  | .nd (.lsA _) _ => true
  | _ => false
def appV (t u : T) (Q : T → T → Prop) : Prop := match t with
  | .ow (.lsA a) ds => match u with
    | .fz d => ds.length < sizeLine ∧ Q (.fz .non) (.ow (.lsA a) (ds ++ [d]))
    | u => ds.length < sizeLine ∧ Q (.fz .non) (.nd (.lsA a) (ds.map .fz ++ [u]))
  | .nd (.lsA a) ts => ts.length < sizeLine ∧ Q (.fz .non) (.nd (.lsA a) (ts ++ [u]))
  | _ => False
theorem isA_kids {t : T} (h : isA t = true) : ∃ a ts, t.kids = some (.lsA a, ts) := by
  unfold isA at h
  split at h
  · exact ⟨_, _, rfl⟩
  · exact ⟨_, _, rfl⟩
  · cases h
def sAppV (i : Nat) (pa : SemP) (q : SemE) : SemE := fun env Q E => pa env (fun t pt env1 => isA t = true ∧ q env1 (fun u env2 => match env2[i]? with
  | some (some t0) => appV t u fun w t' => Q w (env2.set i (some (t0.put pt t')))
  | _ => False) E) E
section
variable {X : Cx} {W : WX} {M Ma Mb IO : List Nat} {a b e o ix : Expr} {pa pb : SemP} {q qi : SemE} {ra rb root : Option Nat} {x : Str} {pos tpos : Pos}
theorem q_aliasN (r : Nat) (h : QP X W M (some r) e pa) : QE X W (M ++ [r]) e (sAliasN r pa) := ⟨PE_imp h.run fun σ H Qv ⟨n, ow, env, Q, E, s, hq, k, xx⟩ => ⟨n, ow, env, _, E, s, hq, fun v t pt H1 ow1 env1 y1 s1 o1 r1 ⟨hl, z⟩ => by
    split at z
    · rename_i t0 e0
      obtain ⟨ts, ek⟩ := isL_kids hl
      obtain ⟨v0, t0', g1, g2, sb⟩ := r1.own ek
      rw [e0] at g2
      cases g2
      obtain ⟨a, dx, vs, rfl, c, s2⟩ := kind_swapT (fun a => .lsA a) s1 g1 e0 sb ek (fun a dx vs c => ⟨c.at_, c.sz, rfl⟩) (fun a b fb => fb)
      exact k _ _ H1 ow1 _ (y1.mono subl (Nat.le_refl _)) s2 ((o1.mono subl).trans (Out.set1 (i := r)) (fun _ h => h) subr) (Tq.fz_.mpr (.exc0 a 0)) (z a)
    · exact z.elim, fun r d H' ow' env' y s' o => xx r d H' ow' env' (y.mono subl (Nat.le_refl _)) s' (o.mono subl)⟩⟩
theorem p_alV (j r : Nat) (hN : X.N[j]? = some x := by rfl) (hv : Vis X.env.scope x := by first | exact Or.inl rfl | exact Or.inr (Or.inl rfl) | exact Or.inr (Or.inr rfl)) (hd : (x == ("__debug__" : Str)) = false := by decide)
    (hcd : (x == ("__classdict__" : Str)) = false := by decide) : QP X W [] (some r) (.Name x pos) (sAlV j r) := ⟨PE_imp (pe_var (i := j) hN hv hd hcd) fun σ H Qv ⟨n, ow, env, Q, E, s, hq, k, _⟩ => by
  obtain ⟨pt, a, t', t0, e1, e2, e3, hr, hq⟩ := hq
  obtain ⟨v, ev, rv⟩ := s.at_ j _ e1
  obtain ⟨v0, ev0, r0⟩ := s.at_ r _ e2
  obtain ⟨v', sb⟩ := sub_of e3 r0
  obtain ⟨ts, ek⟩ := rootA_kids hr
  obtain ⟨a', dx, vs, S, ev', c, _, _⟩ := sb.cell r0 ek
  subst ev'
  have ea : a = a' := c.fit
  subst ea
  have hv : v = V.ref a := by
    have := Tq.fz_.mp rv
    cases this with
    | exc0 => rfl
  subst hv
  exact ⟨_, ev, k _ _ pt H ow _ Stp.refl s Out.refl (.inr (.inr ⟨r, v0, _, rfl, ev0, e2, sb⟩)) hq⟩⟩
theorem q_forget (r : Nat) (h : QE X W M e q) : QE X W (M ++ [r]) e (sForget r q) := ⟨PE_imp h.run fun σ H Qv ⟨n, ow, env, Q, E, s, hq, k, xx⟩ => ⟨n, ow, env, _, E, s, hq, fun v t H1 ow1 env1 y1 s1 o1 r1 ⟨pt, a, t', t0, e0, e3, hr, z⟩ => by
    obtain ⟨v0, ev0, r0⟩ := s1.at_ r _ e0
    obtain ⟨v', sb⟩ := sub_of e3 r0
    obtain ⟨ts, ek⟩ := rootA_kids hr
    obtain ⟨a', dx, vs, _, c, s2⟩ := kind_swapT (fun _ => .lst) s1 ev0 e0 sb ek (fun a dx vs c => ⟨c.at_, c.sz, trivial⟩) (fun a b fb => fb)
    exact k v t H1 ow1 _ (y1.mono subl (Nat.le_refl _)) s2 ((o1.mono subl).trans (Out.set1 (i := r)) (fun _ h => h) subr) r1 z, fun r d H' ow' env' y s' o => xx r d H' ow' env' (y.mono subl (Nat.le_refl _)) s' (o.mono subl)⟩⟩
open Classical in
theorem q_frzP (r : Nat) (h : QP X W M (some r) e pa) : QE X W (M ++ [r]) e (sFrzP r pa) := ⟨PE_imp h.run fun σ H Qv ⟨n, ow, env, Q, E, s, hq, k, xx⟩ => ⟨n, ow, env, _, E, s, hq, fun v t pt H1 ow1 env1 y1 s1 o1 r1 ⟨t0, e0, e3, z⟩ => by
    cases t with
    | fz d =>
      rcases r1 with ⟨d', ed, rp⟩ | ⟨w, _⟩ | ⟨i, v0, t0', w, g1, g2, sb⟩
      · cases ed
        obtain ⟨v0, ev0, r0⟩ := s1.at_ r _ e0
        obtain ⟨v', sb⟩ := sub_of e3 r0
        obtain ⟨S0, r0⟩ := r0
        obtain ⟨St, rt, subS, go⟩ := sb.put r0
        cases rt with
        | fz rp' =>
        obtain ⟨S4, r4, _⟩ := go H1 ow1 (.fz d) (fun _ => False) (fun _ _ e => e) (fun b o hb nb g1 g2 => ⟨g1, g2⟩) (.fz rp') (fun b hb _ => hb.elim)
        have il : r < env1.length := (List.getElem?_eq_some_iff.mp e0).1
        refine k v (.fz d) H1 ow1 _ (y1.mono subl (Nat.le_refl _)) ⟨by rw [List.length_set]; exact s1.len, fun j u e => ?_⟩ ((o1.mono subl).trans (Out.set1 (i := r)) (fun _ h => h) subr) (Tq.fz_.mpr rp) z
        by_cases hj : j = r
        · subst hj
          rw [List.getElem?_set_self il] at e
          cases e
          exact ⟨v0, ev0, S4, r4⟩
        · rw [List.getElem?_set_ne (Ne.symm hj)] at e
          exact s1.at_ j u e
      · cases w
      · cases w
        rw [e0] at g2
        cases g2
        obtain ⟨v0', ev0, r0⟩ := s1.at_ r _ e0
        rw [g1] at ev0
        cases ev0
        have rq := sb.tq r0
        obtain ⟨S0, r0⟩ := r0
        obtain ⟨St, rt, subS, go⟩ := sb.put r0
        obtain ⟨S4, r4, _⟩ := go H1 ow1 (.fz d) (fun _ => False) (fun _ _ e => e) (fun b o hb nb g1 g2 => ⟨g1, g2⟩) (.fz (Tq.fz_.mp rq)) (fun b hb _ => hb.elim)
        have il : r < env1.length := (List.getElem?_eq_some_iff.mp e0).1
        refine k v (.fz d) H1 ow1 _ (y1.mono subl (Nat.le_refl _)) ⟨by rw [List.length_set]; exact s1.len, fun j u e => ?_⟩ ((o1.mono subl).trans (Out.set1 (i := r)) (fun _ h => h) subr) (Tq.fz_.mpr (Tq.fz_.mp rq)) z
        by_cases hj : j = r
        · subst hj
          rw [List.getElem?_set_self il] at e
          cases e
          exact ⟨v0, g1, S4, r4⟩
        · rw [List.getElem?_set_ne (Ne.symm hj)] at e
          exact s1.at_ j u e
    | _ =>
      all_goals
        obtain ⟨v0, t0', g1, g2, sb⟩ := r1.own (by rfl)
        rw [e0] at g2
        cases g2
        obtain ⟨v0', ev0, S0, r0⟩ := s1.at_ r _ e0
        rw [g1] at ev0
        cases ev0
        obtain ⟨St, rt, subS, go⟩ := sb.put r0
        obtain ⟨ow2, how⟩ : ∃ ow2 : Ow, ow2 = fun b => if St b then Lab.base else ow1 b := ⟨_, rfl⟩
        have labS : ∀ b, St b → ow1 b = .sl r := fun b hb => (rt.there b hb).1
        have yes : ∀ {b}, St b → ow2 b = .base := fun hb => by rw [how]; exact if_pos hb
        have no : ∀ {b}, ¬ St b → ow2 b = ow1 b := fun hb => by rw [how]; exact if_neg hb
        have nS : ∀ {b}, ow1 b ≠ .sl r → ¬ St b := fun h hb => h (labS _ hb)
        have bs : Same (Bs H1 ow1) (Bs H1 ow2) := bs_lab fun b e1 => by rw [no (nS (by rw [e1]; exact fun z => nomatch z))]; exact e1
        have rp := rt.all bs (fun b o hb e1 _ => by rw [bs_of (yes hb)]; exact e1)
        have y2 : Stp [r] n H1 ow1 H1 ow2 := ⟨fun b o e1 q1 => ⟨e1, no (nS fun z => by rw [z] at q1; exact q1 (by simp))⟩, fun _ _ e => e⟩
        obtain ⟨S4, r4, _⟩ := go H1 ow2 _ (fun _ => False) bs (fun b o hb nb g1 g2 => ⟨g1, by rw [no nb]; exact g2⟩) (.fz rp) (fun b hb _ => hb.elim)
        have il : r < env1.length := (List.getElem?_eq_some_iff.mp e0).1
        refine k v _ H1 ow2 _ (y1.trans y2 subl subr (Nat.le_refl _) (Nat.le_refl _)) (s1.stp y2 Out.set1 fun j u hj e => ?_) ((o1.mono subl).trans (Out.set1 (i := r)) (fun _ h => h) subr) (Tq.fz_.mpr rp) z
        have ej : j = r := by simpa using hj
        subst ej
        rw [List.getElem?_set_self il] at e
        cases e
        exact ⟨v0, g1, S4, r4⟩, fun r d H' ow' env' y s' o => xx r d H' ow' env' (y.mono subl (Nat.le_refl _)) s' (o.mono subl)⟩⟩
theorem p_ixV (ha : QP X W Ma ra a pa) (hb : QP X W Mb rb b pb) (hs : PlainIx b := by exact fun _ _ => rfl) (hr : okR ra Mb = true := by decide) : QP X W (Ma ++ Mb) ra (.Subscript a b pos) (sPixV pa pb) :=
  ⟨PE_imp (pe_ix ix_seq ha.run hb.run hs) fun σ H Qv ⟨n, ow, env, Q, E, s, hq, k, x⟩ => ⟨n, ow, env, _, E, s, hq, fun v t pt H1 ow1 env1 y1 s1 o1 r1 q1 =>
    ⟨n + 1, ow1, env1, _, E, s1, q1, fun w u pu H2 ow2 env2 y2 s2 o2 r2 q2 => by
      have P := r1.stp y2 o2 hr (Nat.lt_succ_self _)
      unfold ixV at q2
      split at q2
      · obtain ⟨j, hj, t', ht, z⟩ := q2
        have e1 := (r2.ro s2).int
        obtain ⟨a, dx, vs, rfl, c, l, kid⟩ := P.kid s2
        have hv : j < vs.length := by rw [l]; exact ixN_lt hj
        exact .inl ⟨a, vs, _, vs[j], rfl, e1, .inl (.inl c.at_), by rw [atI_of (by rw [l]; exact hj)]; simp [hv], k _ _ _ H2 ow2 env2 (y1.trans y2 subl subr (Nat.le_refl _) (Nat.le_succ _)) s2 (o1.trans o2 subl subr) (kid j _ _ (by simp [hv]) ht) z⟩
      · exact q2.elim, x.step y1 o1 subl subr (Nat.le_refl _) (Nat.le_succ _)⟩, fun r d H' ow' env' y s' o => x r d H' ow' env' (y.mono subl (Nat.le_refl _)) s' (o.mono subl)⟩⟩
theorem q_appV (i : Nat) {apos cpos : Pos} (ho : QP X W Ma (some i) o pa) (he : QE X W Mb e q) (hr : okR (some i) Mb = true := by decide)
    (hbase : attributeBase o "append" X.env (eval o X.env) = eval o X.env := by rfl)
    (hfew : ((backTo cpos (starEach [e] X.env)).all (fun x => !x.1) && (backToKw cpos (keywordEach [] X.env)).all (fun x => x.1.isSome)
      && decide (([e] : List Expr).length + ([] : List Keyword).length + (if ([] : List Keyword).isEmpty then 0 else 1) < 30)) = true := by rfl)
    (hline : (apos.endLine == cpos.line) = true := by rfl) (hs : starEach [e] X.env = (false, eval e X.env) :: starEach [] X.env := by rfl) (hplain : (backTo cpos (starEach [] X.env)).any (·.1) = false := by rfl) :
    QE X W (Ma ++ (Mb ++ [i])) (.Call (.Attribute o "append" apos) [e] [] cpos) (sAppV i pa q) :=
  ⟨PE_imp (pe_bm PySem.F.plainAttrs_list PySem.F.slot_list_append PySem.F.type_list_append mt_append ho.run (pa_cons he.run pa_nil hs) hbase hfew hline hs hplain) fun σ H Qv ⟨n, ow, env, Q, E, s, hq, k, x⟩ => ⟨n, ow, env, _, E, s, hq, fun v t pt H1 ow1 env1 y1 s1 o1 r1 ⟨hk, q1⟩ => by
    obtain ⟨a0, ts, ek⟩ := isA_kids hk
    obtain ⟨v0, t0, e1, e2, sb⟩ := r1.own ek
    obtain ⟨w0, g1, g2⟩ := s1.at_ i t0 e2
    rw [e1] at g1
    cases g1
    obtain ⟨a, dx, vs, S, ev, c, _, _⟩ := sb.cell g2 ek
    subst ev
    refine ⟨.inl ⟨rfl, vs, .inl (.inl c.at_)⟩, n + 1, ow1, env1, _, E, s1, q1, fun w u H2 ow2 env2 y2 s2 o2 r2 q2 => ?_, x.step y1 o1 subl (fun i h => subr i (subl i h)) (Nat.le_refl _) (Nat.le_succ _)⟩
    have hi := okR_some hr
    have e2' : env2[i]? = some (some t0) := (o2.eq i hi).trans e2
    have sb' : Sub X.K H2 ow2 (.sl i) v0 t0 pt (.ref a) t := sb.car (y2.car (l := .sl i) hi)
    split at q2
    · rename_i t0' e3
      rw [e2'] at e3
      cases e3
      obtain ⟨a', dx', us, S', ea, c', rr, go⟩ := put_run (m := n + 1) s2 e1 e2' sb' ek (fun z => nomatch z)
      cases ea
      have fa : a0 = a := c'.fit
      obtain ⟨Bs', rS, rW, rF, fin⟩ := go (.lst (us ++ [w]))
      obtain ⟨Sw, rw', dw⟩ := rW w u r2
      obtain ⟨S3, r3, h3⟩ := Tps.snoc rS rw' fun b hb => (dw b hb).1
      have y12 : Stp (Ma ++ (Mb ++ [i])) n H1 ow1 H2 ow2 := y2.mono (fun i h => subr i (subl i h)) (Nat.le_succ _)
      have lu := rr.len
      have key : ∀ {t' : T}, us.length < sizeLine → (∃ S4, Tp X.K (upd H2 a (.lst (us ++ [w]))) (Ow.mv ow2 (.tm (n + 1)) (.sl i)) (.sl i) (.ref a) t' S4 ∧ ∀ b, S4 b → Foot a dx' (.lsA a0) b ∨ S3 b) → Q (.fz .non) (env2.set i (some (t0.put pt t'))) → rAppend (.ref a) [w] H2 Qv := fun {t'} hz ⟨S4, h4, h5⟩ z => by
        refine ⟨a, us, w, rfl, rfl, c'.at_, hz, ?_⟩
        obtain ⟨y3, s3, o3⟩ := fin t' S4 h4 fun b hb => by
          rcases h5 b hb with z | z
          · exact .inl z
          · rcases h3 b z with z | z
            · exact .inr (.inl z)
            · exact .inr (.inr (dw b z).2.2)
        have y23 : Stp (Ma ++ (Mb ++ [i])) n H2 ow2 _ _ := y3.mono (fun i h => subr i (subr i h)) (Nat.le_succ _)
        exact k .non (.fz .non) _ _ _ ((y1.mono subl (Nat.le_refl _)).trans (y12.trans y23 (fun _ h => h) (fun _ h => h) (Nat.le_refl _) (Nat.le_refl _)) (fun _ h => h) (fun _ h => h) (Nat.le_refl _) (Nat.le_refl _)) s3
          ((o1.mono subl).trans ((o2.mono fun i h => subr i (subl i h)).trans (o3.mono fun i h => subr i (subr i h)) (fun _ h => h) fun _ h => h) (fun _ h => h) fun _ h => h) (Tq.fz_.mpr .non) z
      have cell : us.length < sizeLine → Cell (upd H2 a (.lst (us ++ [w]))) a dx' (.lsA a0) (us ++ [w]) := fun hz => ⟨upd_same, by rw [List.length_append]; simp; omega, fa⟩
      have nd : us.length < sizeLine → ∃ S4, Tp X.K (upd H2 a (.lst (us ++ [w]))) (Ow.mv ow2 (.tm (n + 1)) (.sl i)) (.sl i) (.ref a) (.nd (.lsA a0) (ts ++ [u])) S4 ∧ ∀ b, S4 b → Foot a dx' (.lsA a0) b ∨ S3 b := fun hz => ⟨_, .nd (cell hz) (fun b fb => ⟨(rF b fb).1, fun z => by
        rcases h3 b z with z | z
        · exact (rF b fb).2 z
        · exact (dw b z).2.1 fb⟩) r3, fun b h => h⟩
      cases t with
      | fz d => cases ek
      | ow kd ds =>
        cases kd <;> first | exact False.elim q2 | skip
        cases ek
        have hl : us.length = ds.length := by rw [lu, List.length_map]
        cases u with
        | fz d => exact key (by rw [hl]; exact q2.1) ⟨_, Tp.flat (S := S3) (cell (by rw [hl]; exact q2.1)) (fun b fb => (rF b fb).1) (by rw [List.map_append]; exact r3), fun b h => .inl h⟩ q2.2
        | ow _ _ => exact key (by rw [hl]; exact q2.1) (nd (by rw [hl]; exact q2.1)) q2.2
        | nd _ _ => exact key (by rw [hl]; exact q2.1) (nd (by rw [hl]; exact q2.1)) q2.2
      | nd kd ts' =>
        cases kd <;> first | exact False.elim q2 | skip
        cases ek
        exact key (by rw [lu]; exact q2.1) (nd (by rw [lu]; exact q2.1)) q2.2
    · exact q2.elim, fun r d H' ow' env' y s' o => x r d H' ow' env' (y.mono subl (Nat.le_refl _)) s' (o.mono subl)⟩⟩
theorem t_eqV (hu : X.A.units + 65 < cLine) (ha : QP X W Ma ra a pa) (hb : QP X W Mb rb b pb) (hr : okR ra Mb = true := by decide) : QT X W (Ma ++ Mb) (.Compare a [.Eq] [b] pos) (sT (s2 pa pb fun t u Q => eqG false (vw t) u Q)) := t_cmpR (op_eqAll (by omega)) g_eq.vw ha hb (nomark _) hr
theorem t_neV (hu : X.A.units + 65 < cLine) (ha : QP X W Ma ra a pa) (hb : QP X W Mb rb b pb) (hr : okR ra Mb = true := by decide) : QT X W (Ma ++ Mb) (.Compare a [.NotEq] [b] pos) (sT (s2 pa pb fun t u Q => eqG true (vw t) u Q)) := t_cmpR (op_neAll (by omega)) g_ne.vw ha hb (nomark _) hr
end
end QV

set_option Elab.async false
set_option linter.all false
set_option maxRecDepth 100000
set_option maxHeartbeats 2000000
namespace QV.SM
open PySem PyProof.Rows QV
section
variable {prog : Program} {w : World} {A : Around} {E : Value → Shared → Prop} {s : Shared}
end
end QV.SM
namespace QV
open PySem PySem.Spec PyProof.Rows L2
open Classical in
section
variable {X : Cx} {W : WX} {M : List Nat} {e : Expr} {root : Option Nat} {pa : SemP} {pos p : Pos}
end
end QV

set_option Elab.async false
set_option linter.all false
set_option maxRecDepth 100000
set_option maxHeartbeats 2000000
namespace QV
open PySem PySem.Spec PyProof.Rows L2
def IsK (K : PySem.W.Frag) (mg : Str → Option Value) (x : Str) (C : Addr) : Prop := C8.InsC K C ∧ mg x = some (.ref C)
def isCG (C : Addr) (t : T) (Q : T → Prop) : Prop := match t with
  | .fz (.nd (.ins C' _) _) => C' = C ∧ Q (.fz (.bl true))
  | .ow (.ins C' _) _ => C' = C ∧ Q (.fz (.bl true))
  | .nd (.ins C' _) _ => C' = C ∧ Q (.fz (.bl true))
  | _ => False
theorem isCG_at {K : PySem.W.Frag} {H : Hp} {ow : Ow} {C : Addr} {v : V} {t : T} {Q : T → Prop} (r : Ro K H ow v t) (h : isCG C t Q) : (∃ a dx fs, v = .ref a ∧ H a = some (.ins C dx fs)) ∧ Q (.fz (.bl true)) := by
  obtain ⟨l, r⟩ := r
  unfold isCG at h
  split at h
  · obtain ⟨rfl, h⟩ := h
    cases Tq.fz_.mp r with
    | cell _ cc _ => exact ⟨⟨_, _, _, rfl, (bs_some cc.at_).2⟩, h⟩
  · obtain ⟨rfl, h⟩ := h
    obtain ⟨S, r⟩ := r
    cases r with
    | ow cc _ _ => exact ⟨⟨_, _, _, rfl, cc.at_⟩, h⟩
  · obtain ⟨rfl, h⟩ := h
    obtain ⟨S, r⟩ := r
    cases r with
    | nd cc _ _ => exact ⟨⟨_, _, _, rfl, cc.at_⟩, h⟩
  · exact h.elim
section
variable {X : Cx} {W : WX} {M : List Nat} {e : Expr} {pa : SemP} {root : Option Nat} {p pos cp : Pos} {y : Str} {C : Addr}
theorem q_isC (c : IsK X.K X.mg y C) (hg : Gl X "isinstance") (hm : X.mg "isinstance" = none) (hgy : Gl X y) (ha : QP X W M root e pa) (hdy : (y == ("__debug__" : Str)) = false := by decide)
    (he : starEach [e, .Name y cp] X.env = (false, eval e X.env) :: starEach [.Name y cp] X.env := by rfl) (he2 : starEach [.Name y cp] X.env = (false, eval (.Name y cp) X.env) :: starEach [] X.env := by rfl) (hpl : (backTo pos (starEach [.Name y cp] X.env)).any (·.1) = false := by rfl) :
    QE X W M (.Call (.Name "isinstance" p) [e, .Name y cp] [] pos) (s1 pa (isCG C)) :=
  ⟨PE_imp (pe_callB (C8.call_isC c.1) hg hm bt_isinstance (pa_cons ha.run (pa_cons (pe_glob (v := .ref C) hgy c.2 rfl hdy) pa_nil he2) he) (by decide) (by decide) he hpl) fun σ H Qv ⟨n, ow, env, Q, E, s, hq, k, x⟩ => ⟨n, ow, env, _, E, s, hq, fun v t pt H' ow' env' y1 s' o r z => by
    obtain ⟨⟨a, dx, fs, rfl, ha'⟩, z⟩ := isCG_at (r.ro s') z
    exact ⟨a, dx, fs, rfl, ha', k (.bl true) (.fz (.bl true)) H' ow' env' y1 s' o (Tq.fz_.mpr (.bl _)) z⟩, x⟩⟩
end
end QV

set_option Elab.async false
set_option linter.all false
set_option maxRecDepth 100000
set_option maxHeartbeats 2000000
namespace QV
open PySem PySem.Spec PyProof.Rows L2
section
variable {P : Program} {w : World} {K : PySem.W.Frag} {mg : Str → Option Value} {base : Heap}
end
end QV

set_option Elab.async false
set_option linter.all false
set_option maxRecDepth 100000
set_option maxHeartbeats 2000000
namespace QV
open PySem PySem.Spec PyProof.Rows L2
inductive HdsMix (X : Cx) : List ExceptHandler → List (Value × Option Nat × (Addr → Value → Option Addr → TS)) → Prop
  | nil : HdsMix X [] []
  | only {x : Str} {c : Value} {ts : Addr → Value → Option Addr → TS} {b₀ : Stmt} {suite : List Stmt} {np pos' : Pos} {hds : List ExceptHandler} {l : List (Value × Option Nat × (Addr → Value → Option Addr → TS))} (hc : Names X x c)
      (hsu : ∀ (a : Addr) (oe : Obj) (cls : Value) (d : Option Addr) (pn : List (Addr × Obj)), Zc cls d oe → (∃ vs, oe.data = .fields vs) → PSs (X.suite a ((a, oe) :: pn)) (b₀ :: suite) (ts a cls d)) (r : HdsMix X hds l) :
      HdsMix X (.ExceptHandler (some (.Name x np)) none (b₀ :: suite) pos' :: hds) ((c, none, ts) :: l)
  | as_ {x n : Str} {i : Nat} {c : Value} {ts : Addr → Value → Option Addr → TS} {b₀ : Stmt} {suite : List Stmt} {np pos' : Pos} {hds : List ExceptHandler} {l : List (Value × Option Nat × (Addr → Value → Option Addr → TS))} (hi : X.N[i]? = some n) (hln : X.env.kindOf n = some .local) (hc : Names X x c)
      (hsu : ∀ (a : Addr) (oe : Obj) (cls : Value) (d : Option Addr) (pn : List (Addr × Obj)), Zc cls d oe → (∃ vs, oe.data = .fields vs) → PSs (X.suite a ((a, oe) :: pn)) (b₀ :: suite) (ts a cls d)) (r : HdsMix X hds l) :
      HdsMix X (.ExceptHandler (some (.Name x np)) (some n) (b₀ :: suite) pos' :: hds) ((c, some i, ts) :: l)
section
variable {X : Cx} {body : List Stmt} {h₀ : ExceptHandler} {hds : List ExceptHandler} {l : List (Value × Option Nat × (Addr → Value → Option Addr → TS))} {pos : Pos} {tb : WX → TS} {Wout : WX}
end
abbrev HdS := Option Nat × Str × (Addr → Addr → Option Addr → SemS)
inductive QHs (X : Cx) (W : WX) (IO : List Nat) (cs : List Str) : List ExceptHandler → List HdS → Prop
  | nil : QHs X W IO cs [] []
  | only {y : Str} {ss : Addr → Addr → Option Addr → SemS} {b0 : Stmt} {suite : List Stmt} {np pos' : Pos} {hds : List ExceptHandler} {l : List HdS} (hy : y ∈ cs) (hgy : Gl X y)
      (hsu : ∀ (a C : Addr) (d : Option Addr) (pn : List (Addr × Obj)), Pn (X.suite a pn) a C d → QSs (X.suite a pn) W IO (b0 :: suite) (ss a C d)) (r : QHs X W IO cs hds l) (hdy : (y == ("__debug__" : Str)) = false := by decide) :
      QHs X W IO cs (.ExceptHandler (some (.Name y np)) none (b0 :: suite) pos' :: hds) ((none, y, ss) :: l)
  | as_ (i : Nat) {y n : Str} {ss : Addr → Addr → Option Addr → SemS} {b0 : Stmt} {suite : List Stmt} {np pos' : Pos} {hds : List ExceptHandler} {l : List HdS} (hy : y ∈ cs) (hgy : Gl X y)
      (hsu : ∀ (a C : Addr) (d : Option Addr) (pn : List (Addr × Obj)), Pn (X.suite a pn) a C d → QSs (X.suite a pn) W IO (b0 :: suite) (ss a C d)) (r : QHs X W IO cs hds l) (hi : X.N[i]? = some n := by rfl) (hln : X.env.kindOf n = some .local := by rfl) (hdy : (y == ("__debug__" : Str)) = false := by decide) (hio : i ∉ IO := by decide) :
      QHs X W IO cs (.ExceptHandler (some (.Name y np)) (some n) (b0 :: suite) pos' :: hds) ((some i, y, ss) :: l)
section
variable {X : Cx} {W : WX} {IO : List Nat} {ca : Str → Addr} {ns ts cs fs : List Str} {isa : Str → Str → Bool}
end
end QV

set_option Elab.async false
set_option linter.all false
set_option maxRecDepth 100000
set_option maxHeartbeats 2000000
namespace QV
open PySem PySem.Spec PyProof.Rows L2
open Classical in
noncomputable def lendIn (St : Addr → Prop) (ow : Ow) : Ow := fun a => if St a then .sl 0 else if ow a = .base then .base else .fr
open Classical in
noncomputable def lendBack (St : Addr → Prop) (H : Hp) (ow : Ow) (i m : Nat) (owc : Ow) : Ow := fun a => if (H a).isSome = true ∧ ¬ St a then ow a else match owc a with
  | .sl 0 => .sl i
  | .base => .base
  | .fr => .fr
  | _ => .tm m
section
variable {X : Cx} {W : WX} {Ma Mb : List Nat} {k : Nat} {ps : List Str} {spec : SemF} {ks : List (Option Nat)} {e : Expr} {es : List Expr} {pa : SemP} {qs : SemD} {x : Str} {p pos : Pos}
end
end QV

set_option Elab.async false
set_option linter.all false
set_option maxRecDepth 100000
set_option maxHeartbeats 2000000
namespace QV
open PySem PySem.Spec PyProof.Rows L2
open Classical in
noncomputable def lendIn2 (St : Addr → Prop) (c : Nat) (ow : Ow) : Ow := fun a => if St a then .sl 1 else if ow a = .sl c then .sl 0 else if ow a = .base then .base else .fr
open Classical in
noncomputable def lendBack2 (St : Addr → Prop) (H : Hp) (ow : Ow) (c i m : Nat) (owc : Ow) : Ow := fun a => if (H a).isSome = true ∧ ¬ (St a ∨ ow a = .sl c) then ow a else match owc a with
  | .sl 0 => .sl c
  | .sl 1 => .sl i
  | .base => .base
  | .fr => .fr
  | _ => .tm m
section
variable {X : Cx} {W : WX} {Ma Mb : List Nat} {k : Nat} {ps : List Str} {spec : SemF} {ks : List (Option Nat)} {e : Expr} {es : List Expr} {pa : SemP} {qs : SemD} {x y : Str} {p pos py : Pos}
end
end QV

set_option Elab.async false
set_option linter.all false
set_option maxRecDepth 100000
set_option maxHeartbeats 2000000
namespace QV
open PySem PySem.Spec PyProof.Rows L2
def spIni2 (K : PySem.W.Frag) (f g : Str) : Sp := fun vs H Q _ => ∃ a C y z, vs = [.ref a, y, z] ∧ OexC K C ∧ H a = some (exo a C none) ∧ PySem.W.findIn K (.ref C) f = some none ∧ PySem.W.findIn K (.ref C) g = some none ∧
  ∀ dx, H dx = none → dx ≠ a → Q .non (upd (upd (upd H dx (exd dx [(f, y)])) a (exo a C (some dx))) dx (exd dx [(g, z), (f, y)]))
structure BareG2 (P : Program) (w : World) (K : PySem.W.Frag) (mg : Str → Option Value) (base : Heap) (k : Nat) (x : Str) (C : Addr) (f g : Str) (ps : List Str) : Prop where
  at_ : mg x = some (.ref C)
  no1 : PySem.W.findIn K (.ref C) f = some none
  no2 : PySem.W.findIn K (.ref C) g = some none
  ex : ∃ fI fd, OexC K C ∧ PySem.W.findIn K (.ref C) "__init__" = some (some (.ref fI)) ∧ PySem.W.typeIn K (.ref fI) = some (.type "function") ∧ FnOk P w K mg base (L2.CX P w) k fI fd ps (spIni2 K f g) ∧ Binds K fd ps []
structure Bare2 (X : Cx) (k : Nat) (x : Str) (C : Addr) (f g : Str) (ps : List Str) : Prop where
  mg : X.mg x = some (.ref C)
  no1 : PySem.W.findIn X.K (.ref C) f = some none
  no2 : PySem.W.findIn X.K (.ref C) g = some none
  ex : ∃ fI fd, OexC X.K C ∧ PySem.W.findIn X.K (.ref C) "__init__" = some (some (.ref fI)) ∧ PySem.W.typeIn X.K (.ref fI) = some (.type "function") ∧ FnOk X.prog X.w X.K X.mg X.base (L2.CX X.prog X.w) k fI fd ps (spIni2 X.K f g) ∧ Binds X.K fd ps []
end QV

set_option Elab.async false
set_option linter.all false
set_option maxRecDepth 100000
set_option maxHeartbeats 2000000
namespace QV
open PySem PySem.Spec PyProof.Rows L2
section
variable {X : Cx} {W : WX} {Ma Mb : List Nat} {a b : Expr} {pa pb : SemP} {ra rb : Option Nat} {pos : Pos}
end
end QV

set_option Elab.async false
set_option linter.all false
set_option maxRecDepth 100000
set_option maxHeartbeats 2000000
namespace QV
open PySem PySem.Spec PyProof.Rows L2
def kIx : List Key → Key → Option Nat
  | [], _ => none
  | k' :: ks, k => if k' = k then some 0 else (kIx ks k).map (· + 1)
theorem look_kix {α : Type} : ∀ {ks : List Key} {vs : List α} {k : Key} {j : Nat} {w : α}, kIx ks k = some j → vs[j]? = some w → look ks vs k = some w
  | [], _, _, _, _, h, _ => by simp [kIx] at h
  | k' :: ks, [], _, _, _, _, h => by simp at h
  | k' :: ks, v :: vs, k, j, w, h, e => by
    rw [kIx] at h
    by_cases z : k' = k
    · rw [if_pos z] at h
      cases h
      rw [look, if_pos z]
      simpa using e
    · rw [if_neg z] at h
      cases q : kIx ks k with
      | none => rw [q] at h; cases h
      | some i =>
        rw [q] at h
        cases h
        rw [look, if_neg z]
        exact look_kix q (by simpa using e)
def ixD (t u : T) (pt : List Nat) (Q : T → List Nat → Prop) : Prop := match t, u with
  | .nd (.dK ks) ts, .fz kd => ∃ k, keyD kd = some k ∧ ∃ j, kIx ks k = some j ∧ ∃ t', ts[j]? = some t' ∧ Q t' (pt ++ [j])
  | _, _ => False
def sPixD (pa : SemP) (qb : SemE) : SemP := fun env Q E => pa env (fun t pt env1 => qb env1 (fun u env2 => ixD t u pt fun t' pt' => Q t' pt' env2) E) E
section
variable {X : Cx} {W : WX} {M Ma Mb IO : List Nat} {a b e o ix : Expr} {pa : SemP} {qb q qi : SemE} {ra root : Option Nat} {pos tpos : Pos}
theorem p_ixD (hu : X.A.units + 65 < cLine) (ha : QP X W Ma ra a pa) (hb : QE X W Mb b qb) (hs : PlainIx b := by exact fun _ _ => rfl) (hr : okR ra Mb = true := by decide) : QP X W (Ma ++ Mb) ra (.Subscript a b pos) (sPixD pa qb) :=
  ⟨PE_imp (pe_ix (ix_dict (by omega)) ha.run hb.run hs) fun σ H Qv ⟨n, ow, env, Q, E, s, hq, k, x⟩ => ⟨n, ow, env, _, E, s, hq, fun v t pt H1 ow1 env1 y1 s1 o1 r1 q1 =>
    ⟨n + 1, ow1, env1, _, E, s1, q1, fun w u H2 ow2 env2 y2 s2 o2 r2 q2 => by
      have P := r1.stp y2 o2 hr (Nat.lt_succ_self _)
      unfold ixD at q2
      split at q2
      · obtain ⟨kx, hk, j, hj, t', ht, z⟩ := q2
        obtain ⟨a, dx, vs, rfl, c, l, kid⟩ := P.kid s2
        have hv : j < vs.length := by rw [l]; exact (List.getElem?_eq_some_iff.mp ht).1
        have ey := Ro.key (ow := ow2) ⟨.tm (n + 1), r2⟩ hk
        subst ey
        have g := DGet.k (k := kx) c.at_
        rw [look_zip, look_kix hj (show vs[j]? = some vs[j] by simp [hv])] at g
        exact ⟨a, vs[j], rfl, g, k _ _ _ H2 ow2 env2 (y1.trans y2 subl subr (Nat.le_refl _) (Nat.le_succ _)) s2 (o1.trans o2 subl subr) (kid j _ _ (by simp [hv]) ht) z⟩
      · exact q2.elim, x.step y1 o1 subl subr (Nat.le_refl _) (Nat.le_succ _)⟩, fun r d H' ow' env' y s' o => x r d H' ow' env' (y.mono subl (Nat.le_refl _)) s' (o.mono subl)⟩⟩
end
section
variable {X : Cx} {W : WX} {Ma Mb : List Nat} {a b : Expr} {pa pb : SemP} {ra rb : Option Nat} {pos : Pos}
end
abbrev SemPT := Env → (List Key → List T → Env → Prop) → XQ → Prop
def tPT (K : PySem.W.Frag) (W : WX) (M : List Nat) (q : SemPT) (σ : L2.St) (H : Hp) (Qv : List (V × V) → Hp → Prop) : Prop := ∃ (n : Nat) (ow : Ow) (env : Env) (Q : List Key → List T → Env → Prop) (E : XQ), StOk K H ow σ env ∧ q env Q E ∧
  (∀ (vs : List V) (ks : List Key) (ts : List T) (H' : Hp) (ow' : Ow) (env' : Env), Stp M n H ow H' ow' → StOk K H' ow' σ env' → Out M env env' → ks.length = vs.length → vs.length = ts.length → (∀ (j : Nat) (v : V) (t : T), vs[j]? = some v → ts[j]? = some t → Tq K H' ow' (.tm (n + j)) v t) → Q ks ts env' → Qv ((ks.map kV).zip vs) H') ∧ Xk K W M σ H n ow env E
structure QPT (X : Cx) (W : WX) (M : List Nat) (pos : Pos) (ks : List (Option Expr)) (vs : List Expr) (q : SemPT) : Prop where
  run : ∃ trs, PPs X pos ks vs trs ∧ ∀ σ H Qv, tPT X.K W M q σ H Qv → tPairs trs σ H Qv
def sPTn : SemPT := fun env Q _ => Q [] [] env
def sPTc (qk qv : SemE) (qr : SemPT) : SemPT := fun env Q E => qk env (fun t env1 => match keyD t.d with
  | some k => (∃ d, t = .fz d) ∧ qv env1 (fun u env2 => qr env2 (fun ks ts env3 => Q (k :: ks) (u :: ts) env3) E) E
  | none => False) E
def sDisT (q : SemPT) : SemE := fun env Q E => q env (fun ks ts env1 => (ks.Nodup ∧ ks.length ≤ 15) ∧ Q (.nd (.dK ks) ts) env1) E
section
variable {X : Cx} {W : WX} {M Ma Mb Mc : List Nat} {o e f : Expr} {ks : List (Option Expr)} {vs : List Expr} {qk qv : SemE} {qr : SemPT} {pos : Pos}
theorem pt_nil : QPT X W [] pos [] [] sPTn := ⟨[], pps_nil, fun σ H Qv ⟨n, ow, env, Q, E, s, hq, k, x⟩ => k [] [] [] H ow env Stp.refl s Out.refl rfl rfl (fun j v t h => by simp at h) hq⟩
theorem pt_cons (hk : QE X W Ma e qk) (hv : QE X W Mb f qv) (hr : QPT X W Mc pos ks vs qr) : QPT X W (Ma ++ (Mb ++ Mc)) pos (some e :: ks) (f :: vs) (sPTc qk qv qr) := by
  obtain ⟨trs, hp, ht⟩ := hr
  refine ⟨_, pps_cons hk.run hv.run hp, fun σ H Qv ⟨n, ow, env, Q, E, s, hq, k, x⟩ => ⟨n, ow, env, _, E, s, hq, fun v t H1 ow1 env1 y1 s1 o1 r1 z1 => ?_, fun r d H' ow' env' y s' o => x r d H' ow' env' (y.mono subl (Nat.le_refl _)) s' (o.mono subl)⟩⟩
  split at z1
  · rename_i key ek
    obtain ⟨⟨d0, rfl⟩, z1⟩ := z1
    have x1 : Xk X.K W (Mb ++ Mc) σ H1 n ow1 env1 E := x.step y1 o1 subl subr (Nat.le_refl _) (Nat.le_refl _)
    refine ⟨n, ow1, env1, _, E, s1, z1, fun w u H2 ow2 env2 y2 s2 o2 r2 z2 => ?_, fun r d H' ow' env' y s' o => x1 r d H' ow' env' (y.mono subl (Nat.le_refl _)) s' (o.mono subl)⟩
    refine ht σ H2 _ ⟨n + 1, ow2, env2, _, E, s2, z2, fun vs ks ts H3 ow3 env3 y3 s3 o3 hl hl2 rr z3 => ?_, x1.step y2 o2 subl subr (Nat.le_refl _) (Nat.le_succ _)⟩
    have y23 : Stp (Mb ++ Mc) n H1 ow1 H3 ow3 := y2.trans y3 subl subr (Nat.le_refl _) (Nat.le_succ _)
    have o23 : Out (Mb ++ Mc) env1 env3 := o2.trans o3 subl subr
    have ev := rp_key (Tq.fz_.mp r1) ek
    subst ev
    have := k (w :: vs) (key :: ks) (u :: ts) H3 ow3 env3 (y1.trans y23 subl subr (Nat.le_refl _) (Nat.le_refl _)) s3 (o1.trans o23 subl subr) (by simp [hl]) (by simp [hl2]) (fun j v' t' e1 e2 => by
      cases j with
      | zero =>
        simp at e1 e2
        subst e1 e2
        exact (y3.car (l := .tm n) (Nat.lt_succ_self n)).tq r2
      | succ j =>
        have := rr j v' t' (by simpa using e1) (by simpa using e2)
        rwa [show n + 1 + j = n + (j + 1) by omega] at this) z3
    simpa using this
  · exact z1.elim
theorem q_disT (h : QPT X W M pos ks vs qr) (hall : ks.all (·.isSome) = true := by rfl) (hl : ks.length = vs.length := by rfl) (h0 : ks ≠ [] := by exact fun z => nomatch z) (h15 : ks.length ≤ 15 := by decide) : QE X W M (.Dict ks vs pos) (sDisT qr) := by
  obtain ⟨trs, hp, ht⟩ := h
  refine ⟨PE_imp (pe_disp hp hall hl h0 h15) fun σ H Qv ⟨n, ow, env, Q, E, s, hq, k, x⟩ p hpn => ?_⟩
  have y0 : ∀ {m}, Stp ([] : List Nat) m H ow (upd H p (.dK [])) (Ow.put ow p (.tm n)) := fun {m} => Stp.new hpn
  refine ht σ _ _ ⟨n + 1, _, env, _, E, s.stp0 (n := 0) y0, hq, fun vs ks ts H2 ow2 env2 y2 s2 o2 hlen hlen2 rr z2 => ?_, x.step (n1 := n) (M1 := []) y0 Out.refl nilsub (fun _ h => h) (Nat.le_refl _) (Nat.le_succ _)⟩
  obtain ⟨e2, f2⟩ := y2 p _ upd_same (by rw [put_same]; exact Nat.lt_succ_self n)
  rw [put_same] at f2
  obtain ⟨⟨hnd, h15'⟩, z2⟩ := z2
  have hl2 : (ks.zip vs).map (·.1) = ks := by rw [List.map_fst_zip]; omega
  obtain ⟨S, r, hS⟩ := tps_one (n := n) (m := n + 1) (Nat.le_succ n) hlen2 rr
  have pS : ¬ S p := fun z => by
    obtain ⟨k', hk, e⟩ := hS p z
    rw [f2] at e
    have := Lab.tm.inj e
    omega
  have y1 : Stp M n H2 ow2 H2 (Ow.one ow2 n) := stp_one
  have f1 : Ow.one ow2 n p = .tm n := one_tm f2 (Nat.le_refl n)
  have y3 : ∀ {M'}, Stp M' n H2 (Ow.one ow2 n) (upd H2 p (.dK (ks.zip vs))) (Ow.one ow2 n) := fun {M'} => ⟨fun b o e q => by
    have ne : b ≠ p := fun z => by
      rw [z, f1] at q
      exact Nat.lt_irrefl n q
    exact ⟨by rw [upd_ne ne]; exact e, rfl⟩, fun b ws e => by
    have ne : b ≠ p := fun z => by rw [z, e2] at e; cases e
    rw [upd_ne ne]; exact e⟩
  refine ⟨e2, ks.zip vs, ?_, by rw [List.length_zip]; omega, ?_⟩
  · clear z2 rr hnd hl2 y3 h15' r hS pS y1 f1 y2 s2 o2 hlen2 f2 e2
    induction ks generalizing vs with
    | nil => rfl
    | cons a ks ih =>
      cases vs with
      | nil => simp at hlen
      | cons b vs =>
        simp only [List.map_cons, List.zip_cons_cons]
        rw [ih vs (by simpa using hlen)]
  · rw [mergeK_nil (by rw [hl2]; exact hnd)]
    have r' := r.car (H' := upd H2 p (.dK (ks.zip vs))) (ow' := Ow.one ow2 n) (l' := .tm n) (y3 (M' := [])).bs fun b o hb e1 e2 => ⟨by rw [upd_ne (fun z : b = p => pS (by rw [← z]; exact hb))]; exact e1, e2⟩
    exact k _ _ _ _ env2 ((((y0 (m := n)).trans y2 nilsub (fun _ h => h) (Nat.le_refl _) (Nat.le_succ _)).trans (M := M) y1 (fun _ h => h) (fun _ h => h) (Nat.le_refl _) (Nat.le_refl _)).trans (M := M) (y3 (M' := [])) (fun _ h => h) nilsub (Nat.le_refl _) (Nat.le_refl _))
      ((s2.stp0 (n := n) stp_one).stp0 (n := n) y3) o2 ⟨_, .nd (k := .dK ks) (dx := p) ⟨upd_same, by rw [← hlen]; exact Nat.le_trans h15' (by decide), hlen⟩ (fun b fb => by
      have eb : b = p := fb
      rw [eb]; exact ⟨f1, pS⟩) r'⟩ z2
end
def isNk : T → Bool
  | .nd (.dK _) _ => true
  | _ => false
theorem isNk_is {t : T} (h : isNk t = true) : ∃ ks ts, t = .nd (.dK ks) ts := by
  unfold isNk at h
  split at h
  · exact ⟨_, _, rfl⟩
  · cases h
section
variable {X : Cx} {W : WX} {M Ma Mb IO : List Nat} {e o ix : Expr} {q qi : SemE} {pa : SemP} {pos tpos : Pos}
end
end QV

set_option Elab.async false
set_option linter.all false
set_option maxRecDepth 100000
set_option maxHeartbeats 2000000
namespace L2
open PySem PySem.Spec PyProof.Rows
section
variable {κ : Type} [DecidableEq κ]
end
section
variable {X : Cx}
end
end L2

set_option Elab.async false
set_option linter.all false
set_option maxRecDepth 100000
set_option maxHeartbeats 2000000
namespace QV
open PySem PySem.Spec PyProof.Rows L2
open Classical in
section
variable {X : Cx} {W : WX} {M : List Nat} {e : Expr} {root : Option Nat} {pa : SemP} {pos p : Pos}
end
end QV

set_option Elab.async false
set_option linter.all false
set_option maxRecDepth 100000
set_option maxHeartbeats 2000000
namespace QV
open PySem PySem.Spec PyProof.Rows L2
section
variable {K : PySem.W.Frag} {H : Hp} {ow : Ow}
end
section
variable {X : Cx} {W : WX} {M : List Nat} {e : Expr} {pa : SemP} {root : Option Nat} {p pos : Pos}
end
section
variable {X : Cx} {W : WX} {Ma Mb : List Nat} {o e : Expr} {pa : SemP} {q : SemE} {apos cpos : Pos}
end
end QV

set_option Elab.async false
set_option linter.all false
set_option maxRecDepth 100000
set_option maxHeartbeats 2000000
namespace QV
open PySem PySem.Spec PyProof.Rows L2
theorem Sub.one {K : PySem.W.Frag} {H : Hp} {ow : Ow} {l : Lab} {v0 v : V} {k : Kd} {ts : List T} {t : T} {j : Nat} (s : Sub K H ow l v0 (.nd k ts) [j] v t) : ∃ a dx vs, v0 = .ref a ∧ Cell H a dx k vs ∧ vs[j]? = some v ∧ ts[j]? = some t := by
  cases s with
  | cons c f e1 e2 s =>
    cases s
    exact ⟨_, _, _, rfl, c, e1, e2⟩
section
variable {X : Cx} {W : WX} {Ma Mb Mc : List Nat} {e o o2 : Expr} {pa pb : SemP} {q : SemE}
end
end QV

set_option Elab.async false
set_option linter.all false
set_option maxRecDepth 100000
set_option maxHeartbeats 2000000
namespace QV
open PySem PySem.Spec PyProof.Rows L2
section
variable {X : Cx} {W : WX} {M : List Nat} {e : Expr} {pa : SemP} {root : Option Nat} {p pos : Pos}
end
end QV

set_option Elab.async false
set_option linter.all false
set_option maxRecDepth 1000000
set_option maxHeartbeats 2000000
namespace QV
open PySem
end QV

set_option Elab.async false
set_option linter.all false
set_option maxRecDepth 100000
set_option maxHeartbeats 2000000
namespace QV
open PySem PySem.Spec PyProof.Rows L2
abbrev Fx := PySem.W.Frag → Bool
def obsX (fa : List Fx) (fn : List He.FnD) (K : PySem.W.Frag) : He.Al := ((fa.all fun f => f K) && fn.all fun d => (He.Fa.code d.at_ d.qual).ok K, fn.map fun d => He.fnObs K d.at_)
def SaysX (fa : List Fx) (fn : List He.FnD) (K : PySem.W.Frag) : Prop := obsX fa fn K = He.valE fn
section
variable {fa : List Fx} {fn : List He.FnD} {K : PySem.W.Frag}
theorem SaysX.all (c : SaysX fa fn K) : (fa.all fun f => f K) = true := (He.ba (show ((fa.all fun f => f K) && fn.all fun d => (He.Fa.code d.at_ d.qual).ok K) = true from congrArg (fun z : He.Al => z.1) c)).1
end
end QV

set_option Elab.async false
set_option linter.all false
set_option maxRecDepth 100000
set_option maxHeartbeats 2000000
namespace QV
open PySem PySem.Spec PyProof.Rows L2
end QV

set_option Elab.async false
set_option linter.all false
set_option maxRecDepth 100000
set_option maxHeartbeats 2000000
namespace L2
open PySem PySem.Spec PyProof.Rows
section
variable {prog : Program} {w : World} {A : Around} {E : Value → Shared → Prop} {s : Shared}
theorem mayTell_none {stored : List Value} {Q : Bool → Shared → Prop} (hst : ∀ v ∈ stored, ∃ k b, v = .ref b ∧ (tupleKind (mixKind prog w)).is s.heap k b) (h : Q false s) : wpAny (model prog w) A (tableMayTell .none stored) Q E s := by
  unfold tableMayTell
  split
  · exact wpAny_pure h
  · refine wpAny_bind (wpAny_pure ?_)
    simp only [Bool.not_true, Bool.false_eq_true, if_false]
    refine wpAny_bind ?_
    refine wpAny_forIn_list _ (fun rest r s' => s' = s ∧ r = (none, ()) ∧ ∀ v ∈ rest, ∃ k' b, v = .ref b ∧ (tupleKind (mixKind prog w)).is s.heap k' b) _ ?_ ?_ _ _ ⟨rfl, rfl, hst⟩
    · rintro x rest r s' ⟨rfl, rfl, hr⟩
      obtain ⟨k', b, rfl, hb⟩ := hr x List.mem_cons_self
      refine wpAny_bind ((tupleKind (mixKind prog w)).quiet hb ?_)
      simp only [Bool.not_true, Bool.false_eq_true, if_false]
      exact wpAny_pure ⟨rfl, rfl, fun v hv => hr v (List.mem_cons_of_mem _ hv)⟩
    · rintro r s' ⟨rfl, rfl, _⟩
      exact wpAny_pure h
theorem tup_is {h : Heap} {k : List Key} {b : Addr} (x : (tupleKind (mixKind prog w)).is h k b) : ∃ items, h.IsTuple b items := by
  obtain ⟨o, items, n, ho, hc, hd, hi⟩ := x
  exact ⟨items, o, ho, hc, n, hd⟩
theorem walk_none {d : Addr} {o : Obj} {es : Array DictEntry} {ep : Nat} {hsh : Int} {pl : List Nat} {Q : Option Nat → Shared → Prop} (hu : A.units < cLine) (ho : s.heap.get? d = some o) (hd : o.data = .dict es ep)
    (hk : ∀ e ∈ es, ∃ k b, e.key = .ref b ∧ (tupleKind (mixKind prog w)).is s.heap k b) (h : Q none s) : wpAny (model prog w) A (dictWalkPlain d .none hsh es pl) Q E s := by
  unfold dictWalkPlain
  refine wpAny_bind ?_
  refine wpAny_forIn_list _ (fun rest r s' => s' = s ∧ r = (none, ())) _ ?_ ?_ _ _ ⟨rfl, rfl⟩
  · rintro x rest r s' ⟨rfl, rfl⟩
    cases hx : es[x]? with
    | none => exact wpAny_pure ⟨rfl, rfl⟩
    | some e =>
      obtain ⟨k, b, hb, hi⟩ := hk e (Array.mem_of_getElem? hx)
      obtain ⟨items, ht⟩ := tup_is hi
      dsimp only
      by_cases hh : (e.hash == hsh) = true
      · rw [if_pos hh, hb]
        refine wpAny_bind (wpAny_dictEpoch ho hd (wpAny_bind (SeqAt.EqAt.tuple_none ht hu _ _ _ _ (wpAny_bind (wpAny_dictEpoch ho hd ?_)))))
        rw [if_neg (by simp)]
        simp only [Bool.false_eq_true, if_false]
        refine wpAny_bind (wpAny_rule ?_)
        exact wpAny_pure ⟨rfl, rfl⟩
      · rw [if_neg hh]
        exact wpAny_pure ⟨rfl, rfl⟩
  · rintro r s' ⟨rfl, rfl⟩
    exact wpAny_pure h
theorem find_none {d : Addr} {o : Obj} {es : Array DictEntry} {ep : Nat} {hsh : Int} {Q : Option Nat → Shared → Prop} (hu : A.units < cLine) (ho : s.heap.get? d = some o) (hd : o.data = .dict es ep)
    (hk : ∀ e ∈ es, ∃ k b, e.key = .ref b ∧ (tupleKind (mixKind prog w)).is s.heap k b) (h : Q none s) : wpAny (model prog w) A (dictFind d .none hsh) Q E s := by
  have hst : ∀ v ∈ (placesWithHash es.size (fun i => es[i]?.map (·.hash)) hsh).filterMap (fun i => es[i]?.map (·.key)), ∃ k' b, v = .ref b ∧ (tupleKind (mixKind prog w)).is s.heap k' b := by
    intro v hv
    obtain ⟨i, _, hi⟩ := List.mem_filterMap.mp hv
    cases hei : es[i]? with
    | none => rw [hei] at hi; cases hi
    | some e =>
      rw [hei] at hi
      obtain rfl : e.key = v := by simpa using hi
      obtain ⟨k, b, e1, e2⟩ := hk e (Array.mem_of_getElem? hei)
      exact ⟨k, b, e1, e2⟩
  unfold dictFind
  try with_reducible refine wpAny_holding ?_
  refine wpAny_bind (wpAny_dictEntries ho hd ?_)
  dsimp only
  by_cases hall : ((Value.none :: (placesWithHash es.size (fun i => es[i]?.map (·.hash)) hsh).filterMap (fun i => es[i]?.map (·.key))).all carriedByValue) = true
  · rw [if_pos hall]
    exact walk_none hu ho hd hk h
  rw [if_neg hall]
  have hne : ¬ (((placesWithHash es.size (fun i => es[i]?.map (·.hash)) hsh).filterMap (fun i => es[i]?.map (·.key))) == [Value.none]) = true := by
    intro z
    have z := eq_of_beq z
    obtain ⟨k, b, e1, _⟩ := hst .none (by rw [z]; simp)
    cases e1
  rw [if_neg hne]
  refine wpAny_bind (mayTell_none hst ?_)
  rw [if_neg (by simp)]
  refine wpAny_bind ?_
  refine wpAny_forIn_list _ (fun rest r s' => s' = s ∧ r = (none, none)) _ ?_ ?_ _ _ ⟨rfl, rfl⟩
  · rintro x rest r s' ⟨rfl, rfl⟩
    cases hx : es[x]? with
    | none => exact wpAny_pure ⟨rfl, rfl⟩
    | some e =>
      obtain ⟨k, b, hb, hi⟩ := hk e (Array.mem_of_getElem? hx)
      obtain ⟨items, ht⟩ := tup_is hi
      dsimp only
      by_cases hh : (e.hash == hsh) = true
      · rw [if_pos hh, hb]
        refine wpAny_bind (wpAny_dictEpoch ho hd (wpAny_bind (SeqAt.EqAt.tuple_none ht hu _ _ _ _ (wpAny_bind (wpAny_dictEpoch ho hd ?_)))))
        rw [if_neg (by simp)]
        simp only [Bool.false_eq_true, if_false]
        refine wpAny_bind (wpAny_rule ?_)
        first
          | exact wpAny_pure ⟨rfl, rfl⟩
          | exact wpAny_bind (wpAny_pure (wpAny_pure ⟨rfl, rfl⟩))
      · rw [if_neg hh]
        exact wpAny_pure ⟨rfl, rfl⟩
  · rintro r s' ⟨rfl, rfl⟩
    exact wpAny_pure h
end
section
variable {X : Cx} {pins : List (Addr × Obj)} {σ : St} {H : Hp} {s : Shared} {a : Addr} {kvs : List (List Key × V)} {A : Around} {E : Value → Shared → Prop}
end
end L2
namespace QV
open PySem PySem.Spec PyProof.Rows L2
section
variable {X : Cx} {W : WX} {M Ma Mb : List Nat} {a b : Expr} {pa pb : SemP} {ra rb : Option Nat} {pos : Pos}
end
end QV

set_option Elab.async false
set_option linter.all false
set_option maxRecDepth 100000
set_option maxHeartbeats 2000000
namespace QV
open PySem PySem.Spec PyProof.Rows L2
mutual
def tpD : D → Bool
  | .nd .tup ds => tpDs ds
  | d => flD0 d
def tpDs : List D → Bool
  | [] => true
  | d :: ds => tpD d && tpDs ds
end
section
variable {K : PySem.W.Frag} {B B' : Hp}
mutual
theorem rp_tp (e : ∀ a vs, B a = some (.tup vs) → B' a = some (.tup vs)) : ∀ {v : V} {d : D}, Rp K B v d → tpD d = true → Rp K B' v d
  | _, _, .non, _ => .non
  | _, _, .bl b, _ => .bl b
  | _, _, .int i, _ => .int i
  | _, _, .str x, _ => .str x
  | _, _, .scr _, h => by simp [tpD, flD0] at h
  | _, _, .exc0 _ _, h => by simp [tpD, flD0] at h
  | _, _, .exc1 _ _ _, h => by simp [tpD, flD0] at h
  | _, _, .tup c z r, h => .tup (e _ _ c) z (rps_tp e r (by simpa [tpD] using h))
  | _, _, .cell (k := k) hk c r, h => by
    cases k with
    | tup => exact absurd rfl hk
    | lst => simp [tpD, flD0] at h
    | dK ks => simp [tpD, flD0] at h
    | dT ks => simp [tpD, flD0] at h
    | lkT o ks => simp [tpD, flD0] at h
    | lsA b => simp [tpD, flD0] at h
    | ins C ks => simp [tpD, flD0] at h
theorem rps_tp (e : ∀ a vs, B a = some (.tup vs) → B' a = some (.tup vs)) : ∀ {vs : List V} {ds : List D}, Rps K B vs ds → tpDs ds = true → Rps K B' vs ds
  | _, _, .nil, _ => .nil
  | _, _, .cons r s, h => by
    simp only [tpDs, Bool.and_eq_true] at h
    exact .cons (rp_tp e r h.1) (rps_tp e s h.2)
end
end
section
variable {X : Cx} {W : WX} {M Ma Mb : List Nat} {k : Nat} {f : Addr} {fd : FuncData} {ps : List Str} {io cs : List Nat} {spec : SemF} {ks : List (Option Nat)} {e : Expr} {es : List Expr} {qs : SemD} {x : Str} {p pos : Pos}
end
end QV

set_option Elab.async false
set_option linter.all false
set_option maxRecDepth 100000
set_option maxHeartbeats 2000000
namespace QV
open PySem PySem.Spec PyProof.Rows L2
section
variable {K : PySem.W.Frag} {H : Hp} {ow : Ow} {σ : L2.St} {env : Env} {i : Nat} {t0 : T} {p : List Nat} {ds : List D}
end
section
variable {X : Cx} {W : WX} {M Ma : List Nat} {k : Nat} {ps : List Str} {spec : SemF} {e : Expr} {e1 : Expr} {q1 : SemE} {pa : SemP} {x : Str} {px pos : Pos}
end
end QV

set_option Elab.async false
set_option linter.all false
set_option maxRecDepth 100000
set_option maxHeartbeats 2000000
namespace QV
open PySem PySem.Spec PyProof.Rows L2
def tOrT (K : PySem.W.Frag) (ta tb : TE) : TE := fun σ H Q => ta σ H fun x H1 => ∃ k, TruV K x H1 k ∧ (if k = true then Q x H1 else tb σ H1 Q)
theorem pe_orT {X : Cx} {a b : Expr} {rest : List Expr} {pos : Pos} {ta tb : TE} (ha : PE X a ta) (hb : PE X (.BoolOp .Or (b :: rest) pos) tb) : PE X (.BoolOp .Or (a :: b :: rest) pos) (tOrT X.K ta tb) := by
  refine ⟨fun pins s σ H Q I h => ?_⟩
  refine BoolOp_or (thn (ha.run pins s σ H _ I h) fun v s1 ⟨x, H1, I1, r1, k, ht, q1⟩ => ?_)
  refine thn (tru_ok (X := X) pins s1 σ H1 x v (fun c H2 => c = k ∧ H2 = H1) I1 r1 ⟨k, ht, rfl, rfl⟩) fun c s2 ⟨H2, I2, e1, e2⟩ => ?_
  subst e1 e2
  cases c with
  | false => exact hb.run pins s2 σ H2 Q I2 q1
  | true => exact ⟨x, H2, I2, r1, q1⟩
end QV

set_option Elab.async false
set_option linter.all false
set_option maxRecDepth 100000
set_option maxHeartbeats 2000000
namespace QV
open PySem PySem.Spec PyProof.Rows L2
section
variable {X : Cx} {W : WX} {M Ma Mb : List Nat} {k : Nat} {f : Addr} {fd : FuncData} {ps : List Str} {spec : SemF} {e : Expr} {x : Str} {p pos : Pos}
end
end QV

set_option Elab.async false
set_option linter.all false
set_option maxRecDepth 100000
set_option maxHeartbeats 2000000
namespace HI
noncomputable section
def st (acc h : Nat) : Nat :=
  (fun a => Nat.mod (Nat.mul (Nat.add (Nat.mod (Nat.mul a 2147483648) 18446744073709551616) (Nat.div a 8589934592)) 11400714785074694791) 18446744073709551616)
  (Nat.mod (Nat.add acc (Nat.mul h 14029467366897019727)) 18446744073709551616)
def fin (n acc : Nat) : Nat := Nat.mod (Nat.add acc (Nat.xor n (Nat.xor 2870177450012600261 3527539))) 18446744073709551616
section
variable (f g : Nat → Nat → Nat) (c : Nat)
def ext (as : List Nat) : List Nat := as.flatMap fun a => [f a 1, f a 2, f a 3, f a 4]
def l1 : List Nat := (List.range 24).map fun i => f c (Nat.add i 1)
def lK : Nat → List Nat
  | 0 => l1 f c
  | k+1 => ext f (lK k)
def GF := (lK f c 0).map (g 1) ++ ((lK f c 1).map (g 2) ++ ((lK f c 2).map (g 3) ++ ((lK f c 3).map (g 4) ++ ((lK f c 4).map (g 5) ++ (lK f c 5).map (g 6)))))
end
def G := GF st fin 2870177450012600261
def flt (p : Nat → Bool) (l : List Nat) : List Nat := List.rec (motive := fun _ => List Nat) [] (fun x _ ih => Bool.rec ih (x :: ih) (p x)) l
def ne (x : Nat) (l : List Nat) : Bool := List.rec (motive := fun _ => Bool) true (fun y _ ih => Bool.rec ih false (Nat.beq x y)) l
def nodB (l : List Nat) : Bool := List.rec (motive := fun _ => Bool) true (fun x l ih => Bool.rec false ih (ne x l)) l
def nodR (d : Nat) : List Nat → Bool := Nat.rec (motive := fun _ => List Nat → Bool) nodB (fun d ih l => Bool.rec false (ih (flt (fun x => Nat.beq (Nat.mod (Nat.shiftRight x d) 2) 1) l)) (ih (flt (fun x => Nat.beq (Nat.mod (Nat.shiftRight x d) 2) 0) l))) d
def allNe (l : List Nat) : Bool := List.rec (motive := fun _ => Bool) true (fun x _ ih => Bool.rec ih false (Nat.beq x 18446744073709551615)) l
theorem g_ne : allNe G = true := by decide +kernel
theorem g0 : nodR 12 (flt (fun x => Nat.beq (Nat.mod x 4) 0) G) = true := by decide +kernel
theorem g1 : nodR 12 (flt (fun x => Nat.beq (Nat.mod x 4) 1) G) = true := by decide +kernel
theorem g2 : nodR 12 (flt (fun x => Nat.beq (Nat.mod x 4) 2) G) = true := by decide +kernel
theorem g3 : nodR 12 (flt (fun x => Nat.beq (Nat.mod x 4) 3) G) = true := by decide +kernel
section
variable (f g : Nat → Nat → Nat) (c : Nat)
def accF (n : List Nat) : Nat := n.foldl f c
def hF (n : List Nat) : Nat := g n.length (accF f c n)
end
end
end HI

namespace QV
open PySem PySem.Spec PyProof.Rows L2 HI
end QV

set_option Elab.async false
set_option linter.all false
set_option maxRecDepth 100000
set_option maxHeartbeats 4000000
namespace L2
open PySem PySem.Spec PyProof.Rows
end L2
namespace QV
open PySem PySem.Spec PyProof.Rows L2
section
variable {X : Cx} {W : WX} {M Ma Ms : List Nat} {e es : Expr} {pa : SemP} {qs : SemO} {ra : Option Nat} {pos p3 : Pos}
end
end QV

set_option Elab.async false
set_option linter.all false
set_option maxRecDepth 100000
set_option maxHeartbeats 2000000
namespace QV
open PySem PySem.Spec PyProof.Rows L2
section
variable {X : Cx} {W : WX} {k : Nat} {f : Addr} {fd : FuncData} {ps : List Str} {sp : Sp} {x : Str} {p pos : Pos}
end
section
variable {X : Cx} {W : WX} {k : Nat} {f : Addr} {fd : FuncData} {spec : SemF} {x : Str} {p pos : Pos}
end
end QV

set_option Elab.async false
set_option linter.all false
set_option maxRecDepth 100000
set_option maxHeartbeats 2000000
namespace QV
open PySem PySem.Spec PyProof.Rows L2
section
variable {X : Cx} {W : WX} {o e : Expr} {ra rb : Option Nat} {Ma Ml : List Nat} {pa pb : SemP} {pos apos : Pos}
end
end QV

set_option Elab.async false
set_option linter.all false
set_option maxRecDepth 100000
set_option maxHeartbeats 2000000
namespace QV
open PySem PySem.Spec PyProof.Rows L2
section
variable {X : Cx} {W : WX} {Ma Mb : List Nat} {a b : Expr} {pa pb : SemP} {ra rb : Option Nat} {pos : Pos}
end
end QV

set_option Elab.async false
set_option linter.all false
set_option maxRecDepth 100000
set_option maxHeartbeats 2000000
namespace QV
open PySem PySem.Spec PyProof.Rows L2
def gTupL0 (n : Nat) (gs : SemGs) : SemG := fun d env k => match d with
  | .nd .lst ds => ds.length = n ∧ gs ds env k
  | _ => False
section
variable {X : Cx} {SS S1 S2 IO : List Nat} {e : Expr} {es : List Expr} {g : SemG} {gs : SemGs} {pos : Pos}
theorem g_tupL {k : Nat} {n : Nat} (hc : X.calm = true) (h : QGs X SS es gs) (hn : (assignEach es X.env).length = n := by rfl) (hst : (assignEach es X.env).findIdx? (·.1) = none := by rfl) : QG X SS (.Tuple es k pos) (gTupL0 n gs) := ⟨PG_imp (pg_lst hc h.run hn hst) fun v σ H Q ⟨ow, env, d, k, s, r, hq, h⟩ => by
  unfold gTupL0 at hq
  split at hq
  · cases r with
    | cell hn c r => exact ⟨_, _, rfl, .inl (.inl (bs_same H ow _ _ c.at_)), by rw [r.len]; exact hq.1, ow, env, _, k, s, r, hq.2, h⟩
  · exact hq.elim⟩
end
theorem kIx_has : ∀ {ks : List Key} {k : Key} {j : Nat}, kIx ks k = some j → hasG ks k = true
  | [], _, _, h => by simp [kIx] at h
  | k' :: ks, k, j, h => by
    rw [kIx] at h
    by_cases z : k' = k
    · simp [hasG, z]
    · rw [if_neg z] at h
      cases q : kIx ks k with
      | none => rw [q] at h; cases h
      | some i =>
        have := kIx_has q
        unfold hasG at this ⊢
        rw [List.any_cons, this, Bool.or_true]
theorem map_none {ks : List Key} {k : Key} {v : V} (h : k ∉ ks) : ∀ {vs : List V}, ks.length = vs.length → (ks.zip vs).map (fun p => if p.1 = k then v else p.2) = vs := by
  induction ks with
  | nil => intro vs hl; cases vs with
    | nil => rfl
    | cons _ _ => simp at hl
  | cons k0 ks ih =>
    intro vs hl
    cases vs with
    | nil => simp at hl
    | cons v0 vs =>
      rw [List.zip_cons_cons, List.map_cons, ih (fun z => h (List.mem_cons_of_mem _ z)) (by simpa using hl)]
      simp only
      rw [if_neg fun z => h (by rw [← z]; simp)]
theorem map_kix : ∀ {ks : List Key} {vs : List V} {k : Key} {j : Nat} {v : V}, kIx ks k = some j → ks.Nodup → ks.length = vs.length → (ks.zip vs).map (fun p => if p.1 = k then v else p.2) = vs.set j v
  | [], _, _, _, _, h, _, _ => by simp [kIx] at h
  | k' :: ks, [], _, _, _, _, _, hl => by simp at hl
  | k' :: ks, v0 :: vs, k, j, v, h, hn, hl => by
    rw [kIx] at h
    have hl' : ks.length = vs.length := by simpa using hl
    have hn' := List.nodup_cons.mp hn
    by_cases z : k' = k
    · rw [if_pos z] at h
      cases h
      subst z
      rw [List.zip_cons_cons, List.map_cons, map_none hn'.1 hl']
      simp
    · rw [if_neg z] at h
      cases q : kIx ks k with
      | none => rw [q] at h; cases h
      | some i =>
        rw [q] at h
        cases h
        rw [List.zip_cons_cons, List.map_cons, map_kix q hn'.2 hl', List.set_cons_succ]
        simp only
        rw [if_neg z]
theorem put_kix {ks : List Key} {vs : List V} {k : Key} {j : Nat} {v : V} (h : kIx ks k = some j) (hn : ks.Nodup) (hl : ks.length = vs.length) : putK (ks.zip vs) k v = ks.zip (vs.set j v) := by
  rw [putG_zip hl, pKs, pVs, if_pos (kIx_has h), if_pos (kIx_has h), map_kix h hn hl]
theorem kIx_lt : ∀ {ks : List Key} {k : Key} {j : Nat}, kIx ks k = some j → j < ks.length
  | [], _, _, h => by simp [kIx] at h
  | k' :: ks, k, j, h => by
    rw [kIx] at h
    by_cases z : k' = k
    · rw [if_pos z] at h
      cases h
      simp
    · rw [if_neg z] at h
      cases q : kIx ks k with
      | none => rw [q] at h; cases h
      | some i =>
        rw [q] at h
        cases h
        have := kIx_lt q
        simp
        omega
def nsetP (t : T) (kd : D) (u : T) (Q : T → Prop) : Prop := match t with
  | .nd (.dK ks) ts => (ks.Nodup ∧ ks.length < sizeLine) ∧ ∃ k, keyD kd = some k ∧ ∃ j, kIx ks k = some j ∧ Q (.nd (.dK ks) (ts.set j u))
  | _ => False
def sNset (i : Nat) (q : SemE) (pa : SemP) (qi : SemE) : SemS := fun D env => q env (fun u env1 => pa env1 (fun t pt env2 => isNk t = true ∧ qi env2 (fun w env3 => match w, env3[i]? with
  | .fz kd, some (some t0) => nsetP t kd u fun t' => D.nx (env3.set i (some (t0.put pt t')))
  | _, _ => False) D.ex) D.ex) D.ex
section
variable {X : Cx} {W : WX} {M Ma Mb IO : List Nat} {e o ix : Expr} {q qi : SemE} {pa : SemP} {pos tpos : Pos}
theorem s_nset (i : Nat) (hu : X.A.units + 65 < cLine) (he : QE X W M e q) (ho : QP X W Ma (some i) o pa) (hix : QE X W Mb ix qi) (hr : okR (some i) Mb = true := by decide)
    (ha : ∀ v, assign (.Subscript o ix tpos) X.env v = (do
      let ov ← holding [v] (eval o X.env)
      let iv ← holding [v, ov] (eval ix X.env)
      standAt tpos
      holding [v, ov, iv] (setItem ov iv v)
      release [v, ov, iv] []) := by intro _; rfl) (hs : swapsWithSole [.Subscript o ix tpos] e pos.line X.env = pure false := by rfl) (hw : swappedStores [.Subscript o ix tpos] e X.env = pure none := by rfl)
    (h1 : (assignEach [.Subscript o ix tpos] X.env).map (·.2) = [assign (.Subscript o ix tpos) X.env] := by rfl) : QS X W IO (.Assign [.Subscript o ix tpos] e pos) (sNset i q pa qi) :=
  ⟨PS_imp (ps_asg he.run (pg_sub ho.run hix.run (set_dict (by omega)) ha) hs hw h1) fun D σ H ⟨ow, env, De, s, hq, k⟩ => ⟨0, ow, env, _, De.ex, s, hq, fun w u H0 ow0 env0 y0 s0 _ r0 q0 =>
    ⟨1, ow0, env0, _, De.ex, s0, q0, fun v t pt H1 ow1 env1 y1 s1 o1 r1 ⟨hk, q1⟩ => by
      obtain ⟨ks, ts, et⟩ := isNk_is hk
      subst et
      obtain ⟨v0, t0, e1, e2, sb⟩ := r1.own (k := .dK ks) (ts := ts) rfl
      have r0' : Tq X.K H1 ow1 (.tm 0) w u := (y1.car (l := .tm 0) Nat.zero_lt_one).tq r0
      refine ⟨2, ow1, env1, _, De.ex, s1, q1, fun kv kt H2 ow2 env2 y2 s2 o2 r2 q2 => ?_, ((k.ex.step y0.fs Ios.refl).step y1.fs Ios.refl).xk⟩
      have hi := okR_some hr
      have r0'' : Tq X.K H2 ow2 (.tm 0) w u := (y2.car (l := .tm 0) (by show 0 < 2; decide)).tq r0'
      have e2' : env2[i]? = some (some t0) := (o2.eq i hi).trans e2
      have sb' : Sub X.K H2 ow2 (.sl i) v0 t0 pt v (.nd (.dK ks) ts) := sb.car (y2.car (l := .sl i) hi)
      split at q2
      · rename_i kd t0' e3
        rw [e2'] at e3
        cases e3
        obtain ⟨a, dx, us, S, ea, c, rr, go⟩ := put_run (m := 0) s2 e1 e2' sb' (k := .dK ks) (ts := ts) rfl (fun z => nomatch z)
        subst ea
        obtain ⟨⟨hnd, hzl⟩, kx, hk1, j, hj, z⟩ := q2
        have hkv : kv = kV kx := Ro.key (ow := ow2) ⟨.tm 2, r2⟩ hk1
        subst hkv
        have hfit : ks.length = us.length := c.fit
        have hp : putK (ks.zip us) kx w = ks.zip (us.set j w) := put_kix hj hnd hfit
        have hsz := c.sz
        have hjl := kIx_lt hj
        obtain ⟨Bs', rS, rW, rF, fin⟩ := go (.dK (ks.zip (us.set j w)))
        obtain ⟨Sw, rw', dw⟩ := rW w u r0''
        have lts := rS.len
        have ej : us[j]? = some us[j] := List.getElem?_eq_getElem (by omega)
        have et : ts[j]? = some ts[j] := List.getElem?_eq_getElem (by omega)
        obtain ⟨S1, _, sub1, put1⟩ := rS.put ej et
        obtain ⟨S3, r3, h3⟩ := put1 _ _ w u Sw (fun _ _ e => e) (fun b o hb nb g1 g2 => ⟨g1, g2⟩) rw' (fun b hb hs => absurd hs (dw b hb).1)
        have h3' : ∀ b, S3 b → S b ∨ Sw b := fun b hb => (h3 b hb).elim (fun z => .inl z.1) .inr
        have f3 : ∀ b, Foot a dx (.dK ks) b → b = a := fun b fb => fb
        have key : Tp X.K (upd H2 a (.dK (ks.zip (us.set j w)))) (Ow.mv ow2 (.tm 0) (.sl i)) (.sl i) (.ref a) (.nd (.dK ks) (ts.set j u)) (fun b => Foot a dx (.dK ks) b ∨ S3 b) :=
          .nd ⟨upd_same, by rw [List.length_set]; exact hsz, by show ks.length = (us.set j w).length; rw [List.length_set]; exact hfit⟩ (fun b fb => by
            have eb := f3 b fb
            subst eb
            refine ⟨(rF b foot_a).1, fun z => ?_⟩
            rcases h3' b z with z | z
            · exact (rF b foot_a).2 z
            · exact (dw b z).2.1 foot_a) r3
        have hd := DPut.k (k := kx) (v := w) c.at_ (by rw [List.length_zip]; omega)
        rw [hp] at hd
        refine ⟨a, _, rfl, hd, ?_⟩
        obtain ⟨y3, s3, o3⟩ := fin _ _ key fun b hb => by
          rcases hb with z | z
          · exact .inl (by rw [f3 b z]; exact foot_a)
          · rcases h3' b z with z | z
            · exact .inr (.inl z)
            · exact .inr (.inr (dw b z).2.2)
        exact k.nx _ _ _ _ (((y0.fs.trans y1.fs).trans y2.fs).trans y3.fs) Ios.refl s3 z
      · exact q2.elim, (k.ex.step y0.fs Ios.refl).xk⟩, k.ex.xk⟩⟩
end
def sOrS (qa qb : SemE) : SemE := fun env Q E => qa env (fun t env1 => match t with
  | .fz (.str x) => x.length ≤ sizeLine ∧ (decide (x.length = 0) = false → Q (.fz (.str x)) env1) ∧ (decide (x.length = 0) = true → qb env1 Q E)
  | _ => False) E
theorem q_orS {X : Cx} {W : WX} {Ma Mb : List Nat} {a b : Expr} {rest : List Expr} {pos : Pos} {qa qb : SemE} (ha : QE X W Ma a qa) (hb : QE X W Mb (.BoolOp .Or (b :: rest) pos) qb) : QE X W (Ma ++ Mb) (.BoolOp .Or (a :: b :: rest) pos) (sOrS qa qb) := ⟨PE_imp (pe_orT ha.run hb.run) fun σ H Qv ⟨n, ow, env, Q, E, s, hq, k, x⟩ =>
  ⟨n, ow, env, _, E, s, hq, fun v t H1 ow1 env1 y1 s1 o1 r1 z => by
    split at z
    · rename_i z0
      obtain ⟨hz, z1, z2⟩ := z
      have ev : v = .str z0 := by have := Tq.rd r1; cases this; rfl
      subst ev
      have ht : TruV X.K (.str z0) H1 (!decide (z0.length = 0)) := ⟨hz, by rw [Bool.eq_iff_iff]; simp only [Bool.not_eq_true', decide_eq_false_iff_not, bne_iff_ne, ne_eq]; omega⟩
      refine ⟨!decide (z0.length = 0), ht, ?_⟩
      cases e : decide (z0.length = 0) with
      | false =>
        exact k _ _ H1 ow1 env1 (y1.mono subl (Nat.le_refl _)) s1 (o1.mono subl) r1 (z1 e)
      | true =>
        exact ⟨n, ow1, env1, Q, E, s1, z2 e, fun v2 t2 H2 ow2 env2 y2 s2 o2 r2 zz => k v2 t2 H2 ow2 env2 (y1.trans y2 subl subr (Nat.le_refl _) (Nat.le_refl _)) s2 (o1.trans o2 subl subr) r2 zz, x.step y1 o1 subl subr (Nat.le_refl _) (Nat.le_refl _)⟩
    · exact z.elim, fun r d H' ow' env' y s' o => x r d H' ow' env' (y.mono subl (Nat.le_refl _)) s' (o.mono subl)⟩⟩
end QV

set_option Elab.async false
set_option linter.all false
set_option maxRecDepth 100000
set_option maxHeartbeats 4000000
namespace PySem
open Sem (wp)
end PySem
namespace L2
open PySem PySem.Spec PyProof.Rows
end L2

namespace L2
open PySem PySem.Spec PyProof.Rows
end L2
namespace QV
open PySem PySem.Spec PyProof.Rows L2
section
variable {X : Cx} {W : WX} {M Ma Ml : List Nat} {e o : Expr} {q : SemE} {pa : SemP} {ra root : Option Nat} {x : Str} {p pos apos : Pos}
def splitG (a : Str) (t : T) (Q : T → Prop) : Prop := ∃ b : Str, t = .fz (.str b) ∧ (b.length == 0) = false ∧ a.length + 2 ≤ sizeLine ∧ Q (.ow .lst ((Txt.split a b).map .str))
theorem rps_strs {K : PySem.W.Frag} {B : Hp} : ∀ ys : List Str, Rps K B (ys.map V.str) (ys.map .str)
  | [] => .nil
  | y :: ys => .cons (.str y) (rps_strs ys)
theorem g_split {K : PySem.W.Frag} : Mt1 K (fun x xs H Q => ∃ a b, x = .str a ∧ xs = [.str b] ∧ (b.length == 0) = false ∧ a.length + 2 ≤ sizeLine ∧ rNewStrs (Txt.split a b) H Q) splitG := by
  intro H ow n x v t Q Qv rv ⟨b, e, h1, h2, q⟩ k
  subst e
  have r := rv.rd
  cases r
  have hl : (Txt.split x b).length ≤ sizeLine := Nat.le_trans (PyProof.Rows.split_le x b) h2
  refine ⟨x, b, rfl, rfl, h1, h2, fun p hp => ?_⟩
  exact k _ _ _ (Ow.put ow p (.tm n)) (Stp.new hp) (Tq.newL hp (by rw [List.length_map]; exact hl) (rps_strs _)) q
theorem q_split (ho : QE X W Ma o q) (he : QP X W Ml ra e pa) (hs : starEach [e] X.env = [(false, eval e X.env)] := by rfl) (hbase : attributeBase o "split" X.env (eval o X.env) = eval o X.env := by rfl) (hline : (apos.endLine == pos.line) = true := by rfl) :
    QE X W (Ma ++ Ml) (.Call (.Attribute o "split" apos) [e] [] pos) (sM1 q pa splitG) := q_m1 F.slot_str_split F.type_str_split mt_split g_split ho he hs hbase hline
def intSG (t : T) (Q : T → Prop) : Prop := ∃ (a : Str) (n : Int), t = .fz (.str a) ∧ PySem.intText? a = some n ∧ a.length ≤ 640 ∧ Q (.fz (.int n))
theorem g_intS {K : PySem.W.Frag} : Op1 K (fun x H Q => ∃ a n, [x] = [V.str a] ∧ PySem.intText? a = some n ∧ a.length ≤ 640 ∧ Q (.int n) H) intSG := by
  intro H ow n x t Q Qv rx ⟨a, m, e, h1, h2, q⟩ k
  subst e
  have r := rx.rd
  cases r
  exact ⟨a, m, rfl, h1, h2, k _ _ H ow Stp.refl (Tq.fz_.mpr (.int _)) q⟩
theorem q_intS (hg : Gl X "int") (hm : X.mg "int" = none) (ha : QP X W M root e pa) (hs : starEach [e] X.env = (false, eval e X.env) :: starEach [] X.env := by rfl) (hpl : (backTo pos (starEach [] X.env)).any (·.1) = false := by rfl) :
    QE X W M (.Call (.Name "int" p) [e] [] pos) (s1 pa intSG) := q_ty1 call_int_str g_intS hg hm (by decide +kernel) ha (by decide) (by decide) hs hpl
def strIG (t : T) (Q : T → Prop) : Prop := ∃ i : Int, t = .fz (.int i) ∧ i.natAbs.log2 < 1920 ∧ Q (.fz (.str (toString i)))
theorem g_strI {K : PySem.W.Frag} : Op1 K (fun x H Q => ∃ i, [x] = [V.int i] ∧ i.natAbs.log2 < 1920 ∧ Q (.str (toString i)) H) strIG := by
  intro H ow n x t Q Qv rx ⟨i, e, h, q⟩ k
  subst e
  have r := rx.rd
  cases r
  exact ⟨i, rfl, h, k _ _ H ow Stp.refl (Tq.fz_.mpr (.str _)) q⟩
structure KTab (K : PySem.W.Frag) (w : World) (mg : Str → Option Value) (x : Str) (tab : List (Str × List Str)) (ta : Str → Addr) : Prop where
  dict : ∃ (d : Addr) (es : Array DictEntry) (n : Nat), mg x = some (.ref d) ∧ KDict K w d es n ∧ (∀ k xs, (k, xs) ∈ tab → PySem.W.nsIn K d k = some (some (.ref (ta k)))) ∧ (∀ k, (∀ xs, (k, xs) ∉ tab) → PySem.W.nsIn K d k = some none)
  tup : ∀ k xs, (k, xs) ∈ tab → ∀ H : Hp, SqT K H (ta k) (xs.map V.str)
  len : ∀ k xs, (k, xs) ∈ tab → xs.length ≤ sizeLine
end
end QV

set_option Elab.async false
set_option linter.all false
set_option maxRecDepth 100000
set_option maxHeartbeats 4000000
namespace QV
open PySem PySem.Spec PyProof.Rows L2
section
variable {X : Cx} {W : WX} {M : List Nat} {root : Option Nat} {pa : SemP}
end
section
variable {X : Cx} {W : WX} {M Ma Mb : List Nat} {a b : Expr} {pa pb : SemP} {ra rb : Option Nat} {pos : Pos}
end
end QV

set_option Elab.async false
set_option linter.all false
set_option maxRecDepth 100000
set_option maxHeartbeats 2000000
namespace QV
open PySem PySem.Spec PyProof.Rows L2
section
variable {X : Cx} {W : WX} {Ma Mb : List Nat} {a b : Expr} {pa pb : SemP} {ra rb : Option Nat} {pos : Pos}
end
end QV

set_option Elab.async false
set_option linter.all false
set_option maxRecDepth 100000
set_option maxHeartbeats 4000000
namespace My
open PySem L2 QV
def top (i : Nat) : Stmt := PySem.Challenge.pw_bedstone_k93_plan_written_read.main.body.getD i (.Pass ⟨0, 0, 0, 0⟩)
abbrev nsL : List Str := ["NoBed", "NoMark", "NoPiece", "NoPlace", "NoPlan", "TooMany", "Unborne", "Wrong"]
abbrev tsL : List Str := []
abbrev csL : List Str := ["StoneError"]
abbrev fsL : List Str := ["at", "mark", "most", "piece"]
def isaL (x y : Str) : Bool := decide (x = y) || decide (y = "StoneError")
abbrev s_ini_NoBed : Stmt := inCls (top 4) 0
theorem sc_ini_NoBed : FnScope ["self", "at"] ["self", "at"] (defScope s_ini_NoBed) := ⟨rfl, rfl, rfl, by decide +kernel, rfl, by decide +kernel, by decide +kernel⟩
theorem ini_NoBed {P : Program} {w : World} {K : PySem.W.Frag} {mg : Str → Option Value} {base : Heap} {f : Addr} {fd : FuncData} (Fu : Fun K "__init__" "NoBed.__init__" s_ini_NoBed f fd) (Bc : BaseC K mg "StoneError") : FnOk P w K mg base (L2.CX P w) 1 f fd ["self", "at"] (spIni1 K "at") := by
  obtain ⟨S, hm, h1, h2, h3⟩ := Bc
  refine Fu.okX sc_ini_NoBed (fun vs H Q E h => by obtain ⟨a, C, y, rfl, _⟩ := h; rfl) (fun cdv A outer s H vs Q E hr h => ?_)
  obtain ⟨a, C, y, rfl, T, at0, no, q⟩ := h
  refine ⟨_, pss_cons (ps_expr (pe_binit (by rfl) hm h1 h2 h3 (pa_cons (pv 0) (pa_cons pe_str pa_nil)))) (pss_one (ps_ost (f := "at") (pv 0) (pv 1))), ?_⟩
  refine ⟨.ref a, rfl, a, C, [_], rfl, by decide, T, at0, ?_⟩
  exact ⟨y, rfl, .ref a, rfl, a, C, rfl, T, no, .inl ⟨at0, fun dx h1 h2 => q dx h1 h2⟩⟩
abbrev s_ini_NoMark : Stmt := inCls (top 9) 0
theorem sc_ini_NoMark : FnScope ["self", "mark"] ["self", "mark"] (defScope s_ini_NoMark) := ⟨rfl, rfl, rfl, by decide +kernel, rfl, by decide +kernel, by decide +kernel⟩
theorem ini_NoMark {P : Program} {w : World} {K : PySem.W.Frag} {mg : Str → Option Value} {base : Heap} {f : Addr} {fd : FuncData} (Fu : Fun K "__init__" "NoMark.__init__" s_ini_NoMark f fd) (Bc : BaseC K mg "StoneError") : FnOk P w K mg base (L2.CX P w) 1 f fd ["self", "mark"] (spIni1 K "mark") := by
  obtain ⟨S, hm, h1, h2, h3⟩ := Bc
  refine Fu.okX sc_ini_NoMark (fun vs H Q E h => by obtain ⟨a, C, y, rfl, _⟩ := h; rfl) (fun cdv A outer s H vs Q E hr h => ?_)
  obtain ⟨a, C, y, rfl, T, at0, no, q⟩ := h
  refine ⟨_, pss_cons (ps_expr (pe_binit (by rfl) hm h1 h2 h3 (pa_cons (pv 0) (pa_cons pe_str pa_nil)))) (pss_one (ps_ost (f := "mark") (pv 0) (pv 1))), ?_⟩
  refine ⟨.ref a, rfl, a, C, [_], rfl, by decide, T, at0, ?_⟩
  exact ⟨y, rfl, .ref a, rfl, a, C, rfl, T, no, .inl ⟨at0, fun dx h1 h2 => q dx h1 h2⟩⟩
abbrev s_ini_NoPiece : Stmt := inCls (top 6) 0
theorem sc_ini_NoPiece : FnScope ["self", "piece"] ["self", "piece"] (defScope s_ini_NoPiece) := ⟨rfl, rfl, rfl, by decide +kernel, rfl, by decide +kernel, by decide +kernel⟩
theorem ini_NoPiece {P : Program} {w : World} {K : PySem.W.Frag} {mg : Str → Option Value} {base : Heap} {f : Addr} {fd : FuncData} (Fu : Fun K "__init__" "NoPiece.__init__" s_ini_NoPiece f fd) (Bc : BaseC K mg "StoneError") : FnOk P w K mg base (L2.CX P w) 1 f fd ["self", "piece"] (spIni1 K "piece") := by
  obtain ⟨S, hm, h1, h2, h3⟩ := Bc
  refine Fu.okX sc_ini_NoPiece (fun vs H Q E h => by obtain ⟨a, C, y, rfl, _⟩ := h; rfl) (fun cdv A outer s H vs Q E hr h => ?_)
  obtain ⟨a, C, y, rfl, T, at0, no, q⟩ := h
  refine ⟨_, pss_cons (ps_expr (pe_binit (by rfl) hm h1 h2 h3 (pa_cons (pv 0) (pa_cons pe_str pa_nil)))) (pss_one (ps_ost (f := "piece") (pv 0) (pv 1))), ?_⟩
  refine ⟨.ref a, rfl, a, C, [_], rfl, by decide, T, at0, ?_⟩
  exact ⟨y, rfl, .ref a, rfl, a, C, rfl, T, no, .inl ⟨at0, fun dx h1 h2 => q dx h1 h2⟩⟩
abbrev s_ini_NoPlace : Stmt := inCls (top 7) 0
theorem sc_ini_NoPlace : FnScope ["self", "mark"] ["self", "mark"] (defScope s_ini_NoPlace) := ⟨rfl, rfl, rfl, by decide +kernel, rfl, by decide +kernel, by decide +kernel⟩
theorem ini_NoPlace {P : Program} {w : World} {K : PySem.W.Frag} {mg : Str → Option Value} {base : Heap} {f : Addr} {fd : FuncData} (Fu : Fun K "__init__" "NoPlace.__init__" s_ini_NoPlace f fd) (Bc : BaseC K mg "StoneError") : FnOk P w K mg base (L2.CX P w) 1 f fd ["self", "mark"] (spIni1 K "mark") := by
  obtain ⟨S, hm, h1, h2, h3⟩ := Bc
  refine Fu.okX sc_ini_NoPlace (fun vs H Q E h => by obtain ⟨a, C, y, rfl, _⟩ := h; rfl) (fun cdv A outer s H vs Q E hr h => ?_)
  obtain ⟨a, C, y, rfl, T, at0, no, q⟩ := h
  refine ⟨_, pss_cons (ps_expr (pe_binit (by rfl) hm h1 h2 h3 (pa_cons (pv 0) (pa_cons pe_str pa_nil)))) (pss_one (ps_ost (f := "mark") (pv 0) (pv 1))), ?_⟩
  refine ⟨.ref a, rfl, a, C, [_], rfl, by decide, T, at0, ?_⟩
  exact ⟨y, rfl, .ref a, rfl, a, C, rfl, T, no, .inl ⟨at0, fun dx h1 h2 => q dx h1 h2⟩⟩
abbrev s_ini_NoPlan : Stmt := inCls (top 10) 0
theorem sc_ini_NoPlan : FnScope ["self", "at"] ["self", "at"] (defScope s_ini_NoPlan) := ⟨rfl, rfl, rfl, by decide +kernel, rfl, by decide +kernel, by decide +kernel⟩
theorem ini_NoPlan {P : Program} {w : World} {K : PySem.W.Frag} {mg : Str → Option Value} {base : Heap} {f : Addr} {fd : FuncData} (Fu : Fun K "__init__" "NoPlan.__init__" s_ini_NoPlan f fd) (Bc : BaseC K mg "StoneError") : FnOk P w K mg base (L2.CX P w) 1 f fd ["self", "at"] (spIni1 K "at") := by
  obtain ⟨S, hm, h1, h2, h3⟩ := Bc
  refine Fu.okX sc_ini_NoPlan (fun vs H Q E h => by obtain ⟨a, C, y, rfl, _⟩ := h; rfl) (fun cdv A outer s H vs Q E hr h => ?_)
  obtain ⟨a, C, y, rfl, T, at0, no, q⟩ := h
  refine ⟨_, pss_cons (ps_expr (pe_binit (by rfl) hm h1 h2 h3 (pa_cons (pv 0) (pa_cons pe_str pa_nil)))) (pss_one (ps_ost (f := "at") (pv 0) (pv 1))), ?_⟩
  refine ⟨.ref a, rfl, a, C, [_], rfl, by decide, T, at0, ?_⟩
  exact ⟨y, rfl, .ref a, rfl, a, C, rfl, T, no, .inl ⟨at0, fun dx h1 h2 => q dx h1 h2⟩⟩
abbrev s_ini_TooMany : Stmt := inCls (top 5) 0
theorem sc_ini_TooMany : FnScope ["self", "most"] ["self", "most"] (defScope s_ini_TooMany) := ⟨rfl, rfl, rfl, by decide +kernel, rfl, by decide +kernel, by decide +kernel⟩
theorem ini_TooMany {P : Program} {w : World} {K : PySem.W.Frag} {mg : Str → Option Value} {base : Heap} {f : Addr} {fd : FuncData} (Fu : Fun K "__init__" "TooMany.__init__" s_ini_TooMany f fd) (Bc : BaseC K mg "StoneError") : FnOk P w K mg base (L2.CX P w) 1 f fd ["self", "most"] (spIni1 K "most") := by
  obtain ⟨S, hm, h1, h2, h3⟩ := Bc
  refine Fu.okX sc_ini_TooMany (fun vs H Q E h => by obtain ⟨a, C, y, rfl, _⟩ := h; rfl) (fun cdv A outer s H vs Q E hr h => ?_)
  obtain ⟨a, C, y, rfl, T, at0, no, q⟩ := h
  refine ⟨_, pss_cons (ps_expr (pe_binit (by rfl) hm h1 h2 h3 (pa_cons (pv 0) (pa_cons pe_str pa_nil)))) (pss_one (ps_ost (f := "most") (pv 0) (pv 1))), ?_⟩
  refine ⟨.ref a, rfl, a, C, [_], rfl, by decide, T, at0, ?_⟩
  exact ⟨y, rfl, .ref a, rfl, a, C, rfl, T, no, .inl ⟨at0, fun dx h1 h2 => q dx h1 h2⟩⟩
abbrev s_ini_Unborne : Stmt := inCls (top 8) 0
theorem sc_ini_Unborne : FnScope ["self", "mark"] ["self", "mark"] (defScope s_ini_Unborne) := ⟨rfl, rfl, rfl, by decide +kernel, rfl, by decide +kernel, by decide +kernel⟩
theorem ini_Unborne {P : Program} {w : World} {K : PySem.W.Frag} {mg : Str → Option Value} {base : Heap} {f : Addr} {fd : FuncData} (Fu : Fun K "__init__" "Unborne.__init__" s_ini_Unborne f fd) (Bc : BaseC K mg "StoneError") : FnOk P w K mg base (L2.CX P w) 1 f fd ["self", "mark"] (spIni1 K "mark") := by
  obtain ⟨S, hm, h1, h2, h3⟩ := Bc
  refine Fu.okX sc_ini_Unborne (fun vs H Q E h => by obtain ⟨a, C, y, rfl, _⟩ := h; rfl) (fun cdv A outer s H vs Q E hr h => ?_)
  obtain ⟨a, C, y, rfl, T, at0, no, q⟩ := h
  refine ⟨_, pss_cons (ps_expr (pe_binit (by rfl) hm h1 h2 h3 (pa_cons (pv 0) (pa_cons pe_str pa_nil)))) (pss_one (ps_ost (f := "mark") (pv 0) (pv 1))), ?_⟩
  refine ⟨.ref a, rfl, a, C, [_], rfl, by decide, T, at0, ?_⟩
  exact ⟨y, rfl, .ref a, rfl, a, C, rfl, T, no, .inl ⟨at0, fun dx h1 h2 => q dx h1 h2⟩⟩
abbrev s_ini_Wrong : Stmt := inCls (top 3) 0
theorem sc_ini_Wrong : FnScope ["self", "at"] ["self", "at"] (defScope s_ini_Wrong) := ⟨rfl, rfl, rfl, by decide +kernel, rfl, by decide +kernel, by decide +kernel⟩
theorem ini_Wrong {P : Program} {w : World} {K : PySem.W.Frag} {mg : Str → Option Value} {base : Heap} {f : Addr} {fd : FuncData} (Fu : Fun K "__init__" "Wrong.__init__" s_ini_Wrong f fd) (Bc : BaseC K mg "StoneError") : FnOk P w K mg base (L2.CX P w) 1 f fd ["self", "at"] (spIni1 K "at") := by
  obtain ⟨S, hm, h1, h2, h3⟩ := Bc
  refine Fu.okX sc_ini_Wrong (fun vs H Q E h => by obtain ⟨a, C, y, rfl, _⟩ := h; rfl) (fun cdv A outer s H vs Q E hr h => ?_)
  obtain ⟨a, C, y, rfl, T, at0, no, q⟩ := h
  refine ⟨_, pss_cons (ps_expr (pe_binit (by rfl) hm h1 h2 h3 (pa_cons (pv 0) (pa_cons pe_str pa_nil)))) (pss_one (ps_ost (f := "at") (pv 0) (pv 1))), ?_⟩
  refine ⟨.ref a, rfl, a, C, [_], rfl, by decide, T, at0, ?_⟩
  exact ⟨y, rfl, .ref a, rfl, a, C, rfl, T, no, .inl ⟨at0, fun dx h1 h2 => q dx h1 h2⟩⟩
structure Bt (mg : Str → Option Value) : Prop where
  abs : mg "abs" = none
  all : mg "all" = none
  any : mg "any" = none
  bool : mg "bool" = none
  enumerate : mg "enumerate" = none
  int : mg "int" = none
  isinstance : mg "isinstance" = none
  len : mg "len" = none
  list : mg "list" = none
  max : mg "max" = none
  min : mg "min" = none
  range : mg "range" = none
  repr : mg "repr" = none
  str : mg "str" = none
  sum : mg "sum" = none
  tuple : mg "tuple" = none
  g_FAR_bench : ∃ t, mg "FAR_bench" = some (.int 1000000 t)
  g_FAR_wall : ∃ t, mg "FAR_wall" = some (.int 1000000 t)
  g_FIGURES : ∃ t, mg "FIGURES" = some (.str ("0123456789" : Str) t)
  g_LETTERS : ∃ t, mg "LETTERS" = some (.str ("abcdefghijklmnopqrstuvwxyz" : Str) t)
  g_LONGEST_GRAIN : ∃ t, mg "LONGEST_GRAIN" = some (.int 8 t)
  g_MOST_BEDS_bench : ∃ t, mg "MOST_BEDS_bench" = some (.int 6 t)
  g_MOST_BEDS_texts : ∃ t, mg "MOST_BEDS_texts" = some (.int 6 t)
  g_MOST_BORNE : ∃ t, mg "MOST_BORNE" = some (.int 1000000000000000000000 t)
  g_MOST_COURSES_texts : ∃ t, mg "MOST_COURSES_texts" = some (.int 6 t)
  g_MOST_COURSES_wall : ∃ t, mg "MOST_COURSES_wall" = some (.int 6 t)
  g_MOST_FIGURES : ∃ t, mg "MOST_FIGURES" = some (.int 22 t)
  g_MOST_HEAVY_bench : ∃ t, mg "MOST_HEAVY_bench" = some (.int 1000 t)
  g_MOST_HEAVY_texts : ∃ t, mg "MOST_HEAVY_texts" = some (.int 1000 t)
  g_MOST_JOINTS_bench : ∃ t, mg "MOST_JOINTS_bench" = some (.int 23 t)
  g_MOST_JOINTS_texts : ∃ t, mg "MOST_JOINTS_texts" = some (.int 23 t)
  g_MOST_MEASURE : ∃ t, mg "MOST_MEASURE" = some (.int 1000000 t)
  g_MOST_OF_MARK : ∃ t, mg "MOST_OF_MARK" = some (.int 24 t)
  g_MOST_PIECES : ∃ t, mg "MOST_PIECES" = some (.int 24 t)
  g_MOST_PLACES_texts : ∃ t, mg "MOST_PLACES_texts" = some (.int 24 t)
  g_MOST_PLACES_wall : ∃ t, mg "MOST_PLACES_wall" = some (.int 24 t)

abbrev s_is_whole : Stmt := top 17
theorem sc_is_whole : FnScope ["thing"] ["thing"] (defScope s_is_whole) := ⟨rfl, rfl, rfl, by decide +kernel, rfl, by decide +kernel, by decide +kernel⟩
abbrev s_is_between : Stmt := top 18
theorem sc_is_between : FnScope ["thing", "least", "most"] ["thing", "least", "most"] (defScope s_is_between) := ⟨rfl, rfl, rfl, by decide +kernel, rfl, by decide +kernel, by decide +kernel⟩
abbrev s_are_between : Stmt := top 19
theorem sc_are_between : FnScope ["things", "least", "most", "thing"] ["things", "least", "most"] (defScope s_are_between) := ⟨rfl, rfl, rfl, by decide +kernel, rfl, by decide +kernel, by decide +kernel⟩
abbrev s_is_measure : Stmt := top 20
theorem sc_is_measure : FnScope ["thing"] ["thing"] (defScope s_is_measure) := ⟨rfl, rfl, rfl, by decide +kernel, rfl, by decide +kernel, by decide +kernel⟩
abbrev s_is_spot : Stmt := top 21
theorem sc_is_spot : FnScope ["thing"] ["thing"] (defScope s_is_spot) := ⟨rfl, rfl, rfl, by decide +kernel, rfl, by decide +kernel, by decide +kernel⟩
abbrev s_is_grain : Stmt := top 22
theorem sc_is_grain : FnScope ["thing", "sign"] ["thing"] (defScope s_is_grain) := ⟨rfl, rfl, rfl, by decide +kernel, rfl, by decide +kernel, by decide +kernel⟩
abbrev s_is_lie : Stmt := top 23
theorem sc_is_lie : FnScope ["thing"] ["thing"] (defScope s_is_lie) := ⟨rfl, rfl, rfl, by decide +kernel, rfl, by decide +kernel, by decide +kernel⟩
abbrev s_is_mark : Stmt := top 24
theorem sc_is_mark : FnScope ["thing"] ["thing"] (defScope s_is_mark) := ⟨rfl, rfl, rfl, by decide +kernel, rfl, by decide +kernel, by decide +kernel⟩
abbrev s_are_joints : Stmt := top 31
theorem sc_are_joints : FnScope ["thing", "spot"] ["thing"] (defScope s_are_joints) := ⟨rfl, rfl, rfl, by decide +kernel, rfl, by decide +kernel, by decide +kernel⟩
abbrev s_is_bed : Stmt := top 32
theorem sc_is_bed : FnScope ["thing"] ["thing"] (defScope s_is_bed) := ⟨rfl, rfl, rfl, by decide +kernel, rfl, by decide +kernel, by decide +kernel⟩
abbrev s_are_beds : Stmt := top 33
theorem sc_are_beds : FnScope ["thing", "bed"] ["thing"] (defScope s_are_beds) := ⟨rfl, rfl, rfl, by decide +kernel, rfl, by decide +kernel, by decide +kernel⟩
abbrev s_joints_stand : Stmt := top 34
theorem sc_joints_stand : FnScope ["joints", "end", "last", "joint"] ["joints", "end"] (defScope s_joints_stand) := ⟨rfl, rfl, rfl, by decide +kernel, rfl, by decide +kernel, by decide +kernel⟩
abbrev s_stretches_of : Stmt := top 35
theorem sc_stretches_of : FnScope ["joints", "end", "edges", "k"] ["joints", "end"] (defScope s_stretches_of) := ⟨rfl, rfl, rfl, by decide +kernel, rfl, by decide +kernel, by decide +kernel⟩
abbrev s_like_bed : Stmt := top 36
theorem sc_like_bed : FnScope ["bed"] ["bed"] (defScope s_like_bed) := ⟨rfl, rfl, rfl, by decide +kernel, rfl, by decide +kernel, by decide +kernel⟩
abbrev s_pieces_of : Stmt := top 37
theorem sc_pieces_of : FnScope ["length", "width", "bed", "z", "found", "x", "long", "y", "wide"] ["length", "width", "bed", "z"] (defScope s_pieces_of) := ⟨rfl, rfl, rfl, by decide +kernel, rfl, by decide +kernel, by decide +kernel⟩
abbrev s_Bench_init : Stmt := inCls (top 38) 0
theorem sc_Bench_init : FnScope ["self", "length", "width", "beds", "bed", "top", "at", "z"] ["self", "length", "width", "beds"] (defScope s_Bench_init) := ⟨rfl, rfl, rfl, by decide +kernel, rfl, by decide +kernel, by decide +kernel⟩
abbrev s_Bench_size : Stmt := inCls (top 38) 1
theorem sc_Bench_size : FnScope ["self"] ["self"] (defScope s_Bench_size) := ⟨rfl, rfl, rfl, by decide +kernel, rfl, by decide +kernel, by decide +kernel⟩
abbrev s_Bench_beds : Stmt := inCls (top 38) 2
theorem sc_Bench_beds : FnScope ["self", "bed"] ["self"] (defScope s_Bench_beds) := ⟨rfl, rfl, rfl, by decide +kernel, rfl, by decide +kernel, by decide +kernel⟩
abbrev s_Bench_many : Stmt := inCls (top 38) 3
theorem sc_Bench_many : FnScope ["self"] ["self"] (defScope s_Bench_many) := ⟨rfl, rfl, rfl, by decide +kernel, rfl, by decide +kernel, by decide +kernel⟩
abbrev s_Bench_piece_kept : Stmt := inCls (top 38) 4
theorem sc_Bench_piece_kept : FnScope ["self", "piece"] ["self", "piece"] (defScope s_Bench_piece_kept) := ⟨rfl, rfl, rfl, by decide +kernel, rfl, by decide +kernel, by decide +kernel⟩
abbrev s_Bench_box : Stmt := inCls (top 38) 5
theorem sc_Bench_box : FnScope ["self", "piece"] ["self", "piece"] (defScope s_Bench_box) := ⟨rfl, rfl, rfl, by decide +kernel, rfl, by decide +kernel, by decide +kernel⟩
abbrev s_Bench_grain : Stmt := inCls (top 38) 6
theorem sc_Bench_grain : FnScope ["self", "piece"] ["self", "piece"] (defScope s_Bench_grain) := ⟨rfl, rfl, rfl, by decide +kernel, rfl, by decide +kernel, by decide +kernel⟩
abbrev s_Bench_heavy : Stmt := inCls (top 38) 7
theorem sc_Bench_heavy : FnScope ["self", "piece"] ["self", "piece"] (defScope s_Bench_heavy) := ⟨rfl, rfl, rfl, by decide +kernel, rfl, by decide +kernel, by decide +kernel⟩
abbrev s_is_place : Stmt := top 43
theorem sc_is_place : FnScope ["thing"] ["thing"] (defScope s_is_place) := ⟨rfl, rfl, rfl, by decide +kernel, rfl, by decide +kernel, by decide +kernel⟩
abbrev s_is_course : Stmt := top 44
theorem sc_is_course : FnScope ["thing", "place"] ["thing"] (defScope s_is_course) := ⟨rfl, rfl, rfl, by decide +kernel, rfl, by decide +kernel, by decide +kernel⟩
abbrev s_are_courses : Stmt := top 45
theorem sc_are_courses : FnScope ["thing", "course"] ["thing"] (defScope s_are_courses) := ⟨rfl, rfl, rfl, by decide +kernel, rfl, by decide +kernel, by decide +kernel⟩
abbrev s_need_order : Stmt := top 46
theorem sc_need_order : FnScope ["course", "places", "end", "k", "place"] ["course", "places"] (defScope s_need_order) := ⟨rfl, rfl, rfl, by decide +kernel, rfl, by decide +kernel, by decide +kernel⟩
abbrev s_spans_share : Stmt := top 47
theorem sc_spans_share : FnScope ["place", "other"] ["place", "other"] (defScope s_spans_share) := ⟨rfl, rfl, rfl, by decide +kernel, rfl, by decide +kernel, by decide +kernel⟩
abbrev s_Wall_init : Stmt := inCls (top 48) 0
theorem sc_Wall_init : FnScope ["self", "courses", "k", "course", "mark"] ["self", "courses"] (defScope s_Wall_init) := ⟨rfl, rfl, rfl, by decide +kernel, rfl, by decide +kernel, by decide +kernel⟩
abbrev s_Wall_marks : Stmt := inCls (top 48) 1
theorem sc_Wall_marks : FnScope ["self", "found", "k", "course", "at"] ["self"] (defScope s_Wall_marks) := ⟨rfl, rfl, rfl, by decide +kernel, rfl, by decide +kernel, by decide +kernel⟩
abbrev s_Wall_courses : Stmt := inCls (top 48) 2
theorem sc_Wall_courses : FnScope ["self", "course"] ["self"] (defScope s_Wall_courses) := ⟨rfl, rfl, rfl, by decide +kernel, rfl, by decide +kernel, by decide +kernel⟩
abbrev s_Wall_places_in : Stmt := inCls (top 48) 3
theorem sc_Wall_places_in : FnScope ["self", "course"] ["self", "course"] (defScope s_Wall_places_in) := ⟨rfl, rfl, rfl, by decide +kernel, rfl, by decide +kernel, by decide +kernel⟩
abbrev s_Wall_place_kept : Stmt := inCls (top 48) 4
theorem sc_Wall_place_kept : FnScope ["self", "mark", "places"] ["self", "mark"] (defScope s_Wall_place_kept) := ⟨rfl, rfl, rfl, by decide +kernel, rfl, by decide +kernel, by decide +kernel⟩
abbrev s_Wall_need : Stmt := inCls (top 48) 5
theorem sc_Wall_need : FnScope ["self", "mark", "place"] ["self", "mark"] (defScope s_Wall_need) := ⟨rfl, rfl, rfl, by decide +kernel, rfl, by decide +kernel, by decide +kernel⟩
abbrev s_Wall_sharing : Stmt := inCls (top 48) 6
theorem sc_Wall_sharing : FnScope ["self", "mark", "course", "place", "k", "other"] ["self", "mark", "course"] (defScope s_Wall_sharing) := ⟨rfl, rfl, rfl, by decide +kernel, rfl, by decide +kernel, by decide +kernel⟩
abbrev s_Wall_beneath : Stmt := inCls (top 48) 7
theorem sc_Wall_beneath : FnScope ["self", "mark"] ["self", "mark"] (defScope s_Wall_beneath) := ⟨rfl, rfl, rfl, by decide +kernel, rfl, by decide +kernel, by decide +kernel⟩
abbrev s_Wall_upon : Stmt := inCls (top 48) 8
theorem sc_Wall_upon : FnScope ["self", "mark"] ["self", "mark"] (defScope s_Wall_upon) := ⟨rfl, rfl, rfl, by decide +kernel, rfl, by decide +kernel, by decide +kernel⟩
abbrev s_whole_in : Stmt := top 58
theorem sc_whole_in : FnScope ["word", "sign"] ["word"] (defScope s_whole_in) := ⟨rfl, rfl, rfl, by decide +kernel, rfl, by decide +kernel, by decide +kernel⟩
abbrev s_show_joints : Stmt := top 59
theorem sc_show_joints : FnScope ["joints", "spot"] ["joints"] (defScope s_show_joints) := ⟨rfl, rfl, rfl, by decide +kernel, rfl, by decide +kernel, by decide +kernel⟩
abbrev s_show_plan : Stmt := top 60
theorem sc_show_plan : FnScope ["bench", "wall", "bears", "length", "width", "height", "rows", "high", "grain", "heavy", "across", "along", "joints", "places", "at", "long", "wide", "lie", "spans", "row"] ["bench", "wall", "bears"] (defScope s_show_plan) := ⟨rfl, rfl, rfl, by decide +kernel, rfl, by decide +kernel, by decide +kernel⟩
abbrev s_joints_in : Stmt := top 61
theorem sc_joints_in : FnScope ["word", "joints", "part", "spot"] ["word"] (defScope s_joints_in) := ⟨rfl, rfl, rfl, by decide +kernel, rfl, by decide +kernel, by decide +kernel⟩
abbrev s_bed_in : Stmt := top 62
theorem sc_bed_in : FnScope ["words", "height", "heavy", "across", "along"] ["words"] (defScope s_bed_in) := ⟨rfl, rfl, rfl, by decide +kernel, rfl, by decide +kernel, by decide +kernel⟩
abbrev s_place_in : Stmt := top 63
theorem sc_place_in : FnScope ["words", "at", "long", "wide", "word", "grain"] ["words"] (defScope s_place_in) := ⟨rfl, rfl, rfl, by decide +kernel, rfl, by decide +kernel, by decide +kernel⟩
abbrev s_head_taken : Stmt := top 64
theorem sc_head_taken : FnScope ["plan", "words", "bears", "measures", "word", "one"] ["plan", "words"] (defScope s_head_taken) := ⟨rfl, rfl, rfl, by decide +kernel, rfl, by decide +kernel, by decide +kernel⟩
abbrev s_row_taken : Stmt := top 65
theorem sc_row_taken : FnScope ["plan", "words", "courses", "bed", "height", "place"] ["plan", "words"] (defScope s_row_taken) := ⟨rfl, rfl, rfl, by decide +kernel, rfl, by decide +kernel, by decide +kernel⟩
abbrev s_read_plan : Stmt := top 66
theorem sc_read_plan : FnScope ["text", "rows", "ended", "plan", "at", "row", "bench"] ["text"] (defScope s_read_plan) := ⟨rfl, rfl, rfl, by decide +kernel, rfl, by decide +kernel, by decide +kernel⟩
abbrev s_bag : Stmt := top 68
theorem sc_bag : FnScope ["_law_script", "_law_cell"] ["_law_script"] (defScope s_bag) := ⟨rfl, rfl, rfl, by decide +kernel, rfl, by decide +kernel, by decide +kernel⟩
abbrev s_take : Stmt := top 69
theorem sc_take : FnScope ["_law_bag_here", "_law_many", "_law_cell", "_law_value", "_law_first", "_law_second"] ["_law_bag_here", "_law_many"] (defScope s_take) := ⟨rfl, rfl, rfl, by decide +kernel, rfl, by decide +kernel, by decide +kernel⟩
abbrev s_alike : Stmt := top 70
theorem sc_alike : FnScope ["_law_found", "_law_due"] ["_law_found", "_law_due"] (defScope s_alike) := ⟨rfl, rfl, rfl, by decide +kernel, rfl, by decide +kernel, by decide +kernel⟩
abbrev s_grains : Stmt := top 71
theorem sc_grains : FnScope ["_law_bag_here", "_law_letters", "_law_words", "_law_drawn", "_law_k", "_law_way", "_law_name", "_law_j"] ["_law_bag_here"] (defScope s_grains) := ⟨rfl, rfl, rfl, by decide +kernel, rfl, by decide +kernel, by decide +kernel⟩
abbrev s_rising : Stmt := top 72
theorem sc_rising : FnScope ["_law_bag_here", "_law_count", "_law_end", "_law_found", "_law_at", "_law_many", "_law_k", "_law_room", "_law_near"] ["_law_bag_here", "_law_count", "_law_end"] (defScope s_rising) := ⟨rfl, rfl, rfl, by decide +kernel, rfl, by decide +kernel, by decide +kernel⟩
abbrev s_measure : Stmt := top 73
theorem sc_measure : FnScope ["_law_bag_here"] ["_law_bag_here"] (defScope s_measure) := ⟨rfl, rfl, rfl, by decide +kernel, rfl, by decide +kernel, by decide +kernel⟩
abbrev s_bed : Stmt := top 74
theorem sc_bed : FnScope ["_law_bag_here", "_law_grains_here", "_law_height", "_law_cap", "_law_length", "_law_width", "_law_across", "_law_along", "_law_heavy", "_law_grain"] ["_law_bag_here", "_law_grains_here", "_law_height", "_law_cap", "_law_length", "_law_width"] (defScope s_bed) := ⟨rfl, rfl, rfl, by decide +kernel, rfl, by decide +kernel, by decide +kernel⟩
abbrev s_bench : Stmt := top 75
theorem sc_bench : FnScope ["_law_bag_here", "_law_grains_here", "_law_length", "_law_width", "_law_deep", "_law_cap", "_law_full", "_law_lone", "_law_beds", "_law_k", "_law_height", "_law_bed_here"] ["_law_bag_here"] (defScope s_bench) := ⟨rfl, rfl, rfl, by decide +kernel, rfl, by decide +kernel, by decide +kernel⟩
abbrev s_wide : Stmt := top 76
theorem sc_wide : FnScope ["_law_bag_here"] ["_law_bag_here"] (defScope s_wide) := ⟨rfl, rfl, rfl, by decide +kernel, rfl, by decide +kernel, by decide +kernel⟩
abbrev s_place : Stmt := top 77
theorem sc_place : FnScope ["_law_bag_here", "_law_grains_here", "_law_at", "_law_behind", "_law_grain", "_law_lie"] ["_law_bag_here", "_law_grains_here", "_law_at", "_law_behind"] (defScope s_place) := ⟨rfl, rfl, rfl, by decide +kernel, rfl, by decide +kernel, by decide +kernel⟩
abbrev s_row : Stmt := top 78
theorem sc_row : FnScope ["_law_bag_here", "_law_grains_here", "_law_count", "_law_edges_here", "_law_places", "_law_end", "_law_k", "_law_left", "_law_edge", "_law_gap", "_law_at", "_law_far"] ["_law_bag_here", "_law_grains_here", "_law_count", "_law_edges_here"] (defScope s_row) := ⟨rfl, rfl, rfl, by decide +kernel, rfl, by decide +kernel, by decide +kernel⟩
abbrev s_share : Stmt := top 79
theorem sc_share : FnScope ["_law_one", "_law_other"] ["_law_one", "_law_other"] (defScope s_share) := ⟨rfl, rfl, rfl, by decide +kernel, rfl, by decide +kernel, by decide +kernel⟩
abbrev s_edges : Stmt := top 80
theorem sc_edges : FnScope ["_law_places", "_law_found", "_law_place_here"] ["_law_places"] (defScope s_edges) := ⟨rfl, rfl, rfl, by decide +kernel, rfl, by decide +kernel, by decide +kernel⟩
abbrev s_shut : Stmt := top 81
theorem sc_shut : FnScope ["_law_bag_here", "_law_grains_here", "_law_many", "_law_most", "_law_wide_here", "_law_courses", "_law_under", "_law_k", "_law_count", "_law_places", "_law_place_here", "_law_one"] ["_law_bag_here"] (defScope s_shut) := ⟨rfl, rfl, rfl, by decide +kernel, rfl, by decide +kernel, by decide +kernel⟩
abbrev s_joints_text : Stmt := top 82
theorem sc_joints_text : FnScope ["_law_joints", "_law_spot"] ["_law_joints"] (defScope s_joints_text) := ⟨rfl, rfl, rfl, by decide +kernel, rfl, by decide +kernel, by decide +kernel⟩
abbrev s_plan_rows : Stmt := top 83
theorem sc_plan_rows : FnScope ["_law_length", "_law_width", "_law_beds", "_law_courses", "_law_bears", "_law_rows", "_law_height", "_law_grain", "_law_heavy", "_law_across", "_law_along", "_law_words", "_law_places", "_law_at", "_law_long", "_law_wide_here", "_law_lie"] ["_law_length", "_law_width", "_law_beds", "_law_courses", "_law_bears"] (defScope s_plan_rows) := ⟨rfl, rfl, rfl, by decide +kernel, rfl, by decide +kernel, by decide +kernel⟩
abbrev s_bench_told : Stmt := top 84
theorem sc_bench_told : FnScope ["_law_bench_here", "_law_found", "_law_k"] ["_law_bench_here"] (defScope s_bench_told) := ⟨rfl, rfl, rfl, by decide +kernel, rfl, by decide +kernel, by decide +kernel⟩
abbrev s_shut_told : Stmt := top 85
theorem sc_shut_told : FnScope ["_law_shut_here", "_law_found", "_law_mark"] ["_law_shut_here"] (defScope s_shut_told) := ⟨rfl, rfl, rfl, by decide +kernel, rfl, by decide +kernel, by decide +kernel⟩
abbrev s_read_right : Stmt := top 86
theorem sc_read_right : FnScope ["_law_text", "_law_bench_here", "_law_shut_here", "_law_bears", "_law_found"] ["_law_text", "_law_bench_here", "_law_shut_here", "_law_bears"] (defScope s_read_right) := ⟨rfl, rfl, rfl, by decide +kernel, rfl, by decide +kernel, by decide +kernel⟩
abbrev s_law : Stmt := top 87
theorem sc_law : FnScope ["_law_script", "_law_bag_here", "_law_first", "_law_length", "_law_width", "_law_beds", "_law_courses", "_law_bears", "_law_text", "_law_row_here", "_law_bench_here", "_law_shut_here", "_law_turn"] ["_law_script"] (defScope s_law) := ⟨rfl, rfl, rfl, by decide +kernel, rfl, by decide +kernel, by decide +kernel⟩
local macro_rules | `(tactic| walk_at "v") => `(tactic| first
  | refine ⟨_, rfl, ?_⟩
  | refine ⟨.inl rfl, ?_⟩
  | refine ⟨rfl, ?_⟩
  | refine ⟨cmulR (by decide) (by decide), ?_⟩
  | refine ⟨cmulL (by decide) (by decide), ?_⟩
  | refine ⟨cmulR (by omega) (by omega), ?_⟩
  | refine ⟨cmulL (by omega) (by omega), ?_⟩
  | refine ⟨show (0 : Int) < _ by omega, ?_⟩
  | refine ⟨cdivS (by omega) (by omega), ?_⟩
  | refine ⟨cdivB (by omega) (by omega), ?_⟩
  | refine ⟨show CPow _ _ from ⟨by decide, by decide, by decide⟩, ?_⟩
  | refine ⟨_, _, rfl, (show IsBag _ by assumption), (show (0 : Int) < _ by omega), (by omega), fun _ _ _ _ _ => ?_⟩
  | walk_at "m")
local macro_rules | `(tactic| walk_at "vs") => `(tactic| repeat walk_at "v")
local macro_rules | `(tactic| walk_at "vn") => `(tactic| repeat (walk_at "v"; walk_at "nf"))
local macro_rules | `(tactic| walk_at "m") => `(tactic| refine ⟨_, fun _ => (by (walk_at "vs"); first | exact rfl | exact ⟨rfl, rfl⟩), ?_⟩)
local macro_rules | `(tactic| walk_at "w") => `(tactic| conv => whnf)
local macro_rules | `(tactic| walk_at "so") => `(tactic| first | omega | (simp; done) | (simp; omega) | (simp at *; omega))
local macro_rules | `(tactic| walk_at "nf") => `(tactic| try dsimp only [env0, putE_nil, putE_cons, putO_nil, putO_cons, nf_set0, nf_setS, wipeE, rstE, nf_map, nf_map0, nf_app, nf_app0, List.length_cons, List.length_nil, Nat.reduceAdd, Nat.reduceSub, List.replicate_succ, List.replicate_zero])
local macro_rules | `(tactic| walk_at "no") => `(tactic| refine ⟨.inl rfl, fun z => absurd z (by simp [eqD, T.d]), fun _ => ?_⟩)
local macro_rules | `(tactic| walk_at "yes") => `(tactic| refine ⟨.inl rfl, fun _ => ?_, fun z => absurd z (by simp [eqD, T.d])⟩)
local macro_rules | `(tactic| walk_at "ns") => `(tactic| refine ⟨.inl rfl, fun z => absurd z (by decide +kernel), fun _ => ?_⟩)
local macro_rules | `(tactic| walk_at "sk") => `(tactic| (walk_at "nf"; repeat (walk_at "ns"; walk_at "nf")))
local macro_rules | `(tactic| walk_at "sy") => `(tactic| (walk_at "sk"; walk_at "yes"; walk_at "nf"))

def M6 (i : Int) : Prop := 1 ≤ i ∧ i ≤ 1000000
abbrev abcL : List Nat := ("abcdefghijklmnopqrstuvwxyz" : Str).cps.toList
def gLet (g : Str) : Prop := 1 ≤ g.length ∧ g.length ≤ 8 ∧ ∀ c, c ∈ g.cps.toList → c ∈ abcL
def grainsS : SemF := fun args Q E => ∃ t, args = [t] ∧ IsBag t ∧ ∀ (gs : List Str) t', (∀ g, g ∈ gs → gLet g) → 1 ≤ gs.length → gs.length ≤ 3 → IsBag t' → Q (.fz (.nd .lst (gs.map .str))) [t']
abbrev intsD (xs : List Int) : D := .nd .lst (xs.map .int)

def sml (k n : Nat) (d : D) : Prop := d.pl n = true ∧ shrt d = true ∧ szD d ≤ k
theorem sml_int {n : Nat} {i : Int} (h : -(10 ^ 30) < i ∧ i < 10 ^ 30) : sml 140 n (.int i) := ⟨by cases n <;> rfl, by simp only [shrt, decide_eq_true_eq]; omega, Nat.le_refl _⟩
theorem abc_lt {c : Nat} (h : c ∈ abcL) : c < 128 := by
  have : (abcL.all fun c => decide (c < 128)) = true := by decide +kernel
  simpa using List.all_eq_true.mp this c h
theorem sml_strL {n m : Nat} {g : Str} (h : g.cps.size ≤ m) (h2 : ∀ c, c ∈ g.cps.toList → c < 128) : sml m n (.str g) := by
  refine ⟨?_, ?_, h⟩
  · cases n <;> (simp only [D.pl, PyData.strOk]; rw [← Array.all_toList, List.all_eq_true]; exact fun c hc => by have := h2 c hc; simp; omega)
  · simp only [shrt, List.all_eq_true, decide_eq_true_eq]
    exact fun c hc => by have := h2 c hc; omega
theorem sml_let {n : Nat} {g : Str} (h : gLet g) : sml 8 n (.str g) := sml_strL h.2.1 fun c hc => abc_lt (h.2.2 c hc)
theorem sml_mono {k m n : Nat} {d : D} (h : sml k n d) (l : k ≤ m) : sml m n d := ⟨h.1, h.2.1, Nat.le_trans h.2.2 l⟩
theorem sml_lstD {k n m : Nat} {ds : List D} (h : ∀ d, d ∈ ds → sml k n d) (hl : ds.length ≤ m) : sml (m * (k + 1)) (n + 1) (.nd .lst ds) :=
  ⟨pl_lst fun d hd => (h d hd).1, shrts_all fun d hd => (h d hd).2.1, Nat.le_trans (szDs_le fun d hd => (h d hd).2.2) (Nat.mul_le_mul hl (Nat.le_refl _))⟩
theorem sml_lst {α : Type} {k n m : Nat} {l : List α} {f : α → D} (h : ∀ a, a ∈ l → sml k n (f a)) (hl : l.length ≤ m) : sml (m * (k + 1)) (n + 1) (.nd .lst (l.map f)) := sml_lstD (fun d hd => by
  obtain ⟨a, ha, rfl⟩ := List.mem_map.mp hd; exact h a ha) (by rw [List.length_map]; exact hl)
inductive smls (n : Nat) : Nat → List D → Prop
  | nil : smls n 0 []
  | cons {k m : Nat} {d : D} {ds : List D} : sml k n d → smls n m ds → smls n (k + 1 + m) (d :: ds)
theorem smls.and {n k : Nat} {ds : List D} (h : smls n k ds) : Dspl n ds = true ∧ shrts ds = true ∧ szDs ds ≤ k := by
  induction h with
  | nil => exact ⟨rfl, rfl, Nat.le_refl _⟩
  | cons a _ ih => exact ⟨by simp [Dspl, a.1, ih.1], by simp [shrts, a.2.1, ih.2.1], by have := a.2.2; have := ih.2.2; simp only [szDs]; omega⟩
theorem sml_tup {k n : Nat} {ds : List D} (h : smls n k ds) : sml k (n + 1) (.nd .tup ds) := ⟨by rw [D.pl]; exact h.and.1, h.and.2.1, h.and.2.2⟩
theorem sml_ls {k n : Nat} {ds : List D} (h : smls n k ds) : sml k (n + 1) (.nd .lst ds) := ⟨by rw [D.pl]; exact h.and.1, h.and.2.1, h.and.2.2⟩
theorem szN {n : Nat} (h : n ≤ 16777216) : n ≤ sizeLine := by rw [sizeLine_eq]; exact h
theorem szI {i : Int} (h : i ≤ 16777216) : i ≤ ((sizeLine : Nat) : Int) := by rw [sizeLine_eq]; exact h
theorem szL {n : Nat} (h : n < 16777216) : n < sizeLine := by rw [sizeLine_eq]; exact h
theorem sml_al {k : Nat} {d : D} (h : sml k 64 d) (hk : k ≤ 262144) : d.pl 64 = true ∧ shwD d := ⟨h.1, shw_of h.2.1 (Nat.le_trans h.2.2 hk)⟩

structure Bx where
  (x y z l w h : Int)
def Bx.ok (b : Bx) : Prop := (0 ≤ b.x ∧ 1 ≤ b.l ∧ b.x + b.l ≤ 1000000) ∧ (0 ≤ b.y ∧ 1 ≤ b.w ∧ b.y + b.w ≤ 1000000) ∧ (0 ≤ b.z ∧ 1 ≤ b.h ∧ b.z + b.h ≤ 1000000)
def iB : D → Option Int | .int i => some i | _ => none
def whB (d : D) : Bool := (iB d).isSome
def btB (d : D) (lo hi : Int) : Bool := match iB d with | some i => decide (lo ≤ i ∧ i ≤ hi) | none => false
def ff (bs : List Bool) : Option Nat := bs.findIdx? (fun b => !b)
def tyD (d : D) : Bool := (tyN d).isSome
def tyA (d : D) : Bool := tyD d && match d with | .nd .tup ds => ds.all tyD | _ => true
def wholeS : SemF := fun args Q E => ∃ d, args = [.fz d] ∧ tyD d = true ∧ Q (.fz (.bl (whB d))) []
def betweenS : SemF := fun args Q E => ∃ d, ∃ lo hi : Int, args = [.fz d, .fz (.int lo), .fz (.int hi)] ∧ tyD d = true ∧ Q (.fz (.bl (btB d lo hi))) []
def areS : SemF := fun args Q E => ∃ ds, ∃ lo hi : Int, args = [.fz (.nd .tup ds), .fz (.int lo), .fz (.int hi)] ∧ ds.all tyD = true ∧ Q (.fz (.bl (ds.all fun d => btB d lo hi))) []
def measureS : SemF := fun args Q E => ∃ d, args = [.fz d] ∧ tyD d = true ∧ Q (.fz (.bl (btB d 1 1000000))) []
def spotS : SemF := fun args Q E => ∃ d, args = [.fz d] ∧ tyD d = true ∧ Q (.fz (.bl (btB d 0 1000000))) []
theorem iB_some {d : D} {i : Int} (h : iB d = some i) : d = .int i := by
  cases d <;> first | (cases h; rfl) | cases h
theorem ki_none {d : D} (ht : tyD d = true) (h : iB d = none) : (∃ b, d = .bl b) ∨ kInt d = some false := by
  obtain ⟨n, hn⟩ := Option.isSome_iff_exists.mp ht
  cases d with
  | int i => cases h
  | bl b => exact .inl ⟨b, rfl⟩
  | nd k ds => cases k <;> cases hn <;> exact .inr rfl
  | _ => cases hn <;> exact .inr rfl
theorem kt_none {d : D} (ht : tyA d = true) (h : ∀ ds, d ≠ .nd .tup ds) : QV.kTup d = some false := by
  unfold tyA at ht
  rw [Bool.and_eq_true] at ht
  obtain ⟨n, hn⟩ := Option.isSome_iff_exists.mp ht.1
  cases d with
  | nd k ds =>
    cases k with
    | tup => exact absurd rfl (h ds)
    | _ => cases hn <;> rfl
  | _ => cases hn <;> rfl
def Bx.sz (b : Bx) (a : Int) : Int := if a = 0 then b.l else if a = 1 then b.w else b.h
def Bx.fst (b : Bx) (a m : Int) : Bx := if a = 0 then { b with l := m } else if a = 1 then { b with w := m } else { b with h := m }
def pos (c : Int × Bx) : Bool := decide (0 < c.2.l ∧ 0 < c.2.w ∧ 0 < c.2.h)
def bN (b : Bool) : Nat := if b then 1 else 0

def takeX : SemF := fun args Q E => ∃ t n, args = [t, .fz (.int n)] ∧ IsBag t ∧ 0 < n ∧ n < 10000000000000000000000 ∧ ∀ v t', 0 ≤ v → v < n → IsBag t' → Q (.fz (.int v)) [t']
structure gd (n k : Nat) (d : D) : Prop where
  pt : d.pt n = true
  sh : shrt d = true
  sz : szD d ≤ k
theorem gd_pts {n : Nat} : ∀ {ds : List D}, Dpts n ds = true → ∀ d, d ∈ ds → d.pt n = true
  | [], _, d, h => by simp at h
  | e :: ds, hp, d, h => by
    simp only [Dpts, Bool.and_eq_true] at hp
    rcases List.mem_cons.mp h with rfl | z
    · exact hp.1
    · exact gd_pts hp.2 d z
theorem gd_shs : ∀ {ds : List D}, shrts ds = true → ∀ d, d ∈ ds → shrt d = true
  | [], _, d, h => by simp at h
  | e :: ds, hp, d, h => by
    simp only [shrts, Bool.and_eq_true] at hp
    rcases List.mem_cons.mp h with rfl | z
    · exact hp.1
    · exact gd_shs hp.2 d z
theorem gd_szs : ∀ {ds : List D} {k : Nat}, szDs ds ≤ k → ∀ d, d ∈ ds → szD d ≤ k
  | [], _, _, d, h => by simp at h
  | e :: ds, k, hp, d, h => by
    simp only [szDs] at hp
    rcases List.mem_cons.mp h with rfl | z
    · omega
    · exact gd_szs (show szDs ds ≤ k by omega) d z
theorem gd.lst {n k : Nat} {ds : List D} (h : gd (n + 1) k (.nd .lst ds)) : ∀ d, d ∈ ds → gd n k d := fun d hd =>
  ⟨gd_pts (by have := h.pt; rwa [D.pt] at this) d hd, gd_shs (by have := h.sh; rwa [shrt] at this) d hd, gd_szs (by have := h.sz; rwa [szD] at this) d hd⟩
theorem gd.tup {n k : Nat} {ds : List D} (h : gd (n + 1) k (.nd .tup ds)) : ∀ d, d ∈ ds → gd n k d := fun d hd =>
  ⟨gd_pts (by have := h.pt; rwa [D.pt] at this) d hd, gd_shs (by have := h.sh; rwa [shrt] at this) d hd, gd_szs (by have := h.sz; rwa [szD] at this) d hd⟩
theorem gd.ty {n k : Nat} {d : D} (h : gd n k d) : tyD d = true := by
  have hp := h.pt
  cases d with
  | nd kd ds => cases kd <;> first | rfl | (cases n <;> simp [D.pt] at hp)
  | scr ns => cases n <;> simp [D.pt] at hp
  | exc a C dd ks ds => cases n <;> simp [D.pt] at hp
  | _ => rfl
theorem gd.tya {n k : Nat} {d : D} (h : gd n k d) : tyA d = true := by
  have ht := h.ty
  unfold tyA
  rw [ht, Bool.true_and]
  split
  · rename_i ds
    cases n with
    | zero => have := h.pt; simp [D.pt] at this
    | succ n => exact List.all_eq_true.mpr fun x hx => (h.tup x hx).ty
  · rfl
theorem gd_int {n : Nat} {i : Int} (h : i.natAbs < 10000000000000000000000000000000000000000) : gd n 140 (.int i) := ⟨by cases n <;> rfl, decide_eq_true h, Nat.le_refl _⟩
theorem gd.mono {n k m : Nat} {d : D} (h : gd n k d) (l : k ≤ m) : gd n m d := ⟨h.pt, h.sh, Nat.le_trans h.sz l⟩
theorem gd_lst {n k m : Nat} {ds : List D} (h : ∀ d, d ∈ ds → gd n k d) (hl : ds.length ≤ m) : gd (n + 1) (m * (k + 1)) (.nd .lst ds) :=
  ⟨pt_lst fun d hd => (h d hd).pt, shrts_all fun d hd => (h d hd).sh, Nat.le_trans (szDs_le fun d hd => (h d hd).sz) (Nat.mul_le_mul hl (Nat.le_refl _))⟩
theorem gd_tup {n k m : Nat} {ds : List D} (h : ∀ d, d ∈ ds → gd n k d) (hl : ds.length ≤ m) : gd (n + 1) (m * (k + 1)) (.nd .tup ds) :=
  ⟨pt_tup fun d hd => (h d hd).pt, shrts_all fun d hd => (h d hd).sh, Nat.le_trans (szDs_le fun d hd => (h d hd).sz) (Nat.mul_le_mul hl (Nat.le_refl _))⟩
mutual
theorem pt_mono : ∀ {n m : Nat} (d : D), d.pt n = true → n ≤ m → d.pt m = true
  | n, m, .non, _, _ => by simp [D.pt]
  | n, m, .bl _, _, _ => by simp [D.pt]
  | n, m, .int _, _, _ => by simp [D.pt]
  | n, m, .str x, h, _ => by simp [D.pt]
  | 0, m, .nd .lst ds, h, _ => by simp [D.pt] at h
  | 0, m, .nd .tup ds, h, _ => by simp [D.pt] at h
  | 0, m, .nd (.dK []) [], h, _ => by simp [D.pt] at h
  | 0, m, .nd (.dK []) (_ :: _), h, _ => by simp [D.pt] at h
  | 0, m, .nd (.dK (_ :: _)) ds, h, _ => by simp [D.pt] at h
  | 0, m, .nd (.dT _) ds, h, _ => by simp [D.pt] at h
  | 0, m, .nd (.lkT _ _) ds, h, _ => by simp [D.pt] at h
  | 0, m, .nd (.lsA _) ds, h, _ => by simp [D.pt] at h
  | 0, m, .nd (.ins _ _) ds, h, _ => by simp [D.pt] at h
  | n + 1, 0, .nd k ds, _, h => by omega
  | n + 1, m + 1, .nd .lst ds, h, hl => by
    rw [D.pt] at h ⊢
    exact pts_mono ds h (by omega)
  | n + 1, m + 1, .nd .tup ds, h, hl => by
    rw [D.pt] at h ⊢
    exact pts_mono ds h (by omega)
  | n + 1, m + 1, .nd (.dK []) [], h, _ => by simp [D.pt]
  | n + 1, m + 1, .nd (.dK []) (_ :: _), h, _ => by simp [D.pt] at h
  | n + 1, m + 1, .nd (.dK (_ :: _)) ds, h, _ => by simp [D.pt] at h
  | n + 1, m + 1, .nd (.dT _) ds, h, _ => by simp [D.pt] at h
  | n + 1, m + 1, .nd (.lkT _ _) ds, h, _ => by simp [D.pt] at h
  | n + 1, m + 1, .nd (.lsA _) ds, h, _ => by simp [D.pt] at h
  | n + 1, m + 1, .nd (.ins _ _) ds, h, _ => by simp [D.pt] at h
  | n, m, .scr _, h, _ => by cases n <;> simp [D.pt] at h
  | n, m, .exc _ _ _ _ _, h, _ => by cases n <;> simp [D.pt] at h
theorem pts_mono : ∀ {n m : Nat} (ds : List D), Dpts n ds = true → n ≤ m → Dpts m ds = true
  | n, m, [], _, _ => by simp [Dpts]
  | n, m, d :: ds, h, hl => by
    have h' : d.pt n = true ∧ Dpts n ds = true := by simpa [Dpts] using h
    simp only [Dpts, Bool.and_eq_true]
    exact ⟨pt_mono d h'.1 hl, pts_mono ds h'.2 hl⟩
end
def smB (x : Str) : Bool := (x.cps.toList.all fun c => decide (c ∈ abcL)) && (decide ((1 : Int) ≤ x.length) && decide ((x.length : Int) ≤ 8))
def grB : D → Bool | .str x => smB x | _ => false
theorem smB_let {x : Str} : smB x = true ↔ gLet x := by
  unfold smB gLet
  simp only [Bool.and_eq_true, List.all_eq_true, decide_eq_true_eq]
  constructor
  · rintro ⟨h1, h2, h3⟩; exact ⟨by omega, by omega, h1⟩
  · rintro ⟨h1, h2, h3⟩; exact ⟨h3, by omega, by omega⟩
theorem btI {i a b : Int} : btB (.int i) a b = true ↔ a ≤ i ∧ i ≤ b := by simp [btB, iB]
theorem find_first {p : Nat → Bool} {n j : Nat} (h : ∀ i, i < j → p i = false) (hj : p j = true) (hn : j < n) : (List.range n).find? p = some j := by
  rw [List.find?_range_eq_some]
  exact ⟨hj, List.mem_range.mpr hn, fun i hi => by simp [h i hi]⟩
theorem find_none {p : Nat → Bool} {n : Nat} (h : ∀ i, i < n → p i = false) : (List.range n).find? p = none := by
  rw [List.find?_eq_none]
  intro i hi
  simp [h i (List.mem_range.mp hi)]
def grainX : SemF := fun args Q E => ∃ d, args = [.fz d] ∧ tyD d = true ∧ (∀ x, d = .str x → x.length ≤ sizeLine) ∧ Q (.fz (.bl (grB d))) []
theorem ks_none {d : D} (ht : tyD d = true) (h : ∀ x, d ≠ .str x) : kStr d = some false := by
  obtain ⟨n, hn⟩ := Option.isSome_iff_exists.mp ht
  cases d with
  | str x => exact absurd rfl (h x)
  | nd k ds => cases k <;> cases hn <;> rfl
  | _ => cases hn <;> rfl
theorem kl_none {d : D} (ht : tyD d = true) (h : ∀ ds, d ≠ .nd .lst ds) : kLst d = some false := by
  obtain ⟨n, hn⟩ := Option.isSome_iff_exists.mp ht
  cases d with
  | nd k ds =>
    cases k with
    | lst => exact absurd rfl (h ds)
    | _ => cases hn <;> rfl
  | _ => cases hn <;> rfl
def gdB (n k : Nat) (d : D) : Bool := d.pt n && (shrt d && decide (szD d ≤ k))
theorem gd_iff {n k : Nat} {d : D} : gdB n k d = true ↔ gd n k d := by
  unfold gdB
  simp only [Bool.and_eq_true, decide_eq_true_eq]
  exact ⟨fun ⟨a, b, c⟩ => ⟨a, b, c⟩, fun ⟨a, b, c⟩ => ⟨a, b, c⟩⟩
theorem cut_take {α : Type} {l : List α} {a : Int} (h : 0 ≤ a) : cutL l none (some a) = l.take a.toNat := by
  unfold cutL
  simp only [HT.sIx, if_neg (show ¬ a < 0 by omega), Nat.sub_zero, List.drop_zero]
  rcases Nat.le_total a.toNat l.length with z | z
  · rw [Nat.min_eq_left z]
  · rw [Nat.min_eq_right z, List.take_of_length_le (Nat.le_refl _), List.take_of_length_le z]
theorem cut_drop {α : Type} {l : List α} {a : Int} (h : 0 ≤ a) : cutL l (some a) none = l.drop a.toNat := by
  unfold cutL
  simp only [HT.sIx, if_neg (show ¬ a < 0 by omega)]
  rcases Nat.le_total a.toNat l.length with z | z
  · rw [Nat.min_eq_left z, List.take_of_length_le (by rw [List.length_drop]; omega)]
  · rw [Nat.min_eq_right z, List.drop_eq_nil_of_le z]
    simp
theorem rng0 {n : Nat} : rngD 0 n = (List.range n).map fun k => D.int (k : Nat) := by rw [rngD_map]; simp
theorem gd_str {n : Nat} {x : Str} (h : gLet x) : gd n 8 (.str x) := ⟨by cases n <;> rfl, (sml_let (n := 0) h).2.1, (sml_let (n := 0) h).2.2⟩
theorem szDs_app : ∀ {a b : List D}, szDs (a ++ b) = szDs a + szDs b
  | [], b => by simp [szDs]
  | d :: a, b => by
    have := szDs_app (a := a) (b := b)
    simp only [List.cons_append, szDs]
    omega

structure Bed where (h : Int) (g : Str) (w : Int) (xs ys : List Int)
abbrev bedD (b : Bed) : D := .nd .tup [.int b.h, .str b.g, .int b.w, intsD b.xs, intsD b.ys]
abbrev bedsD (B : List Bed) : D := .nd .lst (B.map bedD)
def riseOk (xs : List Int) (e : Int) : Prop := xs.Pairwise (· < ·) ∧ (∀ x, x ∈ xs → 0 < x ∧ x < e) ∧ xs.length ≤ 23
def bedOk (L W : Int) (b : Bed) : Prop := M6 b.h ∧ gLet b.g ∧ (1 ≤ b.w ∧ b.w ≤ 1000) ∧ riseOk b.xs L ∧ riseOk b.ys W
def topF (B : List Bed) : Int := (B.map (·.h)).sum
def manyF (B : List Bed) : Int := (B.map fun b => ((b.xs.length : Int) + 1) * ((b.ys.length : Int) + 1)).sum
def benchOk (L W : Int) (B : List Bed) : Prop := M6 L ∧ M6 W ∧ (1 ≤ B.length ∧ B.length ≤ 6) ∧ (∀ b, b ∈ B → bedOk L W b) ∧ topF B ≤ 1000000 ∧ manyF B ≤ 24
def edF (xs : List Int) (e : Int) : List Int := [0] ++ xs ++ [e]
def stF (xs : List Int) (e : Int) : List (Int × Int) := (List.range (xs.length + 1)).map fun k => ((edF xs e).getD k 0, (edF xs e).getD (k + 1) 0 - (edF xs e).getD k 0)
abbrev prD (p : Int × Int) : D := .nd .tup [.int p.1, .int p.2]
structure Pc where (x y z a b c : Int) (g : Str) (w : Int)
abbrev ppD (p : Pc) : D := .nd .tup [.nd .tup [.int p.x, .int p.y, .int p.z, .int p.a, .int p.b, .int p.c], .str p.g, .int p.w]
def pcF (L W : Int) (b : Bed) (z : Int) : List Pc := (stF b.xs L).flatMap fun p => (stF b.ys W).map fun q => ⟨p.1, q.1, z, p.2, q.2, b.h, b.g, b.w⟩
def pcsF (L W : Int) : List Bed → Int → List Pc
  | [], _ => []
  | b :: B, z => pcF L W b z ++ pcsF L W B (z + b.h)
abbrev benK : List Str := ["long_and_wide", "kept_beds", "top", "kept_pieces"]
def benV (L W : Int) (B : List Bed) : List D := [.nd .tup [.int L, .int W], bedsD B, .int (topF B), .nd .lst ((pcsF L W B 0).map ppD)]
abbrev benD (ca : Str → Addr) (L W : Int) (B : List Bed) : D := .nd (.ins (ca "Bench") benK) (benV L W B)
def stretchS : SemF := fun args Q E => ∃ (xs : List Int) (e : Int), args = [.fz (intsD xs), .fz (.int e)] ∧ xs.length ≤ 23 ∧ Q (.fz (.nd .lst ((stF xs e).map prD))) []
def likeS : SemF := fun args Q E => ∃ b : Bed, args = [.fz (bedD b)] ∧ Q (.fz (bedD b)) []
def piecesS : SemF := fun args Q E => ∃ (L W : Int) (b : Bed) (z : Int), args = [.fz (.int L), .fz (.int W), .fz (bedD b), .fz (.int z)] ∧ b.xs.length ≤ 23 ∧ b.ys.length ≤ 23 ∧ Q (.fz (.nd .lst ((pcF L W b z).map ppD))) []
def sizeS (ca : Str → Addr) : SemF := fun args Q E => ∃ (L W : Int) (B : List Bed), args = [.fz (benD ca L W B)] ∧ Q (.fz (.nd .tup [.int L, .int W, .int (topF B)])) []
def bedsS (ca : Str → Addr) : SemF := fun args Q E => ∃ (L W : Int) (B : List Bed), args = [.fz (benD ca L W B)] ∧ Q (.fz (bedsD B)) []
def manyS (ca : Str → Addr) : SemF := fun args Q E => ∃ (L W : Int) (B : List Bed), args = [.fz (benD ca L W B)] ∧ Q (.fz (.int ((pcsF L W B 0).length : Nat))) []
def risingS : SemF := fun args Q E => ∃ t, ∃ n e : Int, args = [t, .fz (.int n), .fz (.int e)] ∧ IsBag t ∧ 0 ≤ n ∧ n ≤ 23 ∧ M6 e ∧ ∀ (xs : List Int) t', riseOk xs e → (xs.length : Int) ≤ n → IsBag t' → Q (.fz (intsD xs)) [t']
def measS : SemF := fun args Q E => ∃ t, args = [t] ∧ IsBag t ∧ ∀ (v : Int) t', M6 v → IsBag t' → Q (.fz (.int v)) [t']
def lbedS : SemF := fun args Q E => ∃ (t : T) (gs : List Str) (h c L W : Int), args = [t, .fz (.nd .lst (gs.map .str)), .fz (.int h), .fz (.int c), .fz (.int L), .fz (.int W)] ∧ IsBag t ∧ (∀ g, g ∈ gs → gLet g) ∧ (1 ≤ gs.length ∧ gs.length ≤ 3) ∧ M6 h ∧ 1 ≤ c ∧ c ≤ 24 ∧ M6 L ∧ M6 W ∧
  ∀ (b : Bed) t', bedOk L W b → b.h = h → ((b.xs.length : Int) + 1) * ((b.ys.length : Int) + 1) ≤ c → IsBag t' → Q (.fz (bedD b)) [t']
def lbenchS : SemF := fun args Q E => ∃ t, args = [t] ∧ IsBag t ∧ ∀ (L W : Int) (B : List Bed) t', benchOk L W B → IsBag t' → Q (.fz (.nd .tup [.int L, .int W, bedsD B])) [t']
theorem top_snoc {B : List Bed} {j : Nat} {b : Bed} (h : B[j]? = some b) : topF (B.take (j + 1)) = topF (B.take j) + b.h := by
  unfold topF
  rw [List.take_succ, h, Option.toList_some, List.map_append, List.sum_append]; simp
theorem sum_nonneg : ∀ {l : List Int}, (∀ x, x ∈ l → 0 ≤ x) → 0 ≤ l.sum
  | [], _ => by simp
  | a :: l, h => by
    have := sum_nonneg (l := l) fun x hx => h x (by simp [hx])
    have := h a (by simp)
    rw [List.sum_cons]; omega
theorem top_le {B : List Bed} (h : ∀ b, b ∈ B → 1 ≤ b.h) (j : Nat) : topF (B.take j) ≤ topF B := by
  have e : topF B = topF (B.take j) + topF (B.drop j) := by
    unfold topF
    rw [← List.sum_append, ← List.map_append, List.take_append_drop]
  have : 0 ≤ topF (B.drop j) := sum_nonneg fun x hx => by
    obtain ⟨b, hb, rfl⟩ := List.mem_map.mp hx
    have := h b (List.mem_of_mem_drop hb); omega
  omega
theorem pcs_app {L W : Int} : ∀ {A B : List Bed} {z : Int}, pcsF L W (A ++ B) z = pcsF L W A z ++ pcsF L W B (z + topF A)
  | [], B, z => by simp [pcsF, topF]
  | a :: A, B, z => by
    have ih := pcs_app (L := L) (W := W) (A := A) (B := B) (z := z + a.h)
    rw [List.cons_append, pcsF, pcsF, ih, List.append_assoc]
    have : z + a.h + topF A = z + topF (a :: A) := by unfold topF; rw [List.map_cons, List.sum_cons]; omega
    rw [this]
theorem pcs_snoc {L W : Int} {B : List Bed} {j : Nat} {b : Bed} (h : B[j]? = some b) : pcsF L W (B.take (j + 1)) 0 = pcsF L W (B.take j) 0 ++ pcF L W b (topF (B.take j)) := by
  rw [List.take_succ, h, Option.toList_some, pcs_app]
  simp [pcsF]
theorem st_len {xs : List Int} {e : Int} : (stF xs e).length = xs.length + 1 := by unfold stF; simp
theorem pc_len {L W : Int} {b : Bed} {z : Int} : (pcF L W b z).length = (b.xs.length + 1) * (b.ys.length + 1) := by
  have : ∀ l : List (Int × Int), (l.flatMap fun p => (stF b.ys W).map fun q => (⟨p.1, q.1, z, p.2, q.2, b.h, b.g, b.w⟩ : Pc)).length = l.length * (b.ys.length + 1) := fun l => by
    induction l with
    | nil => simp
    | cons p l ih => rw [List.flatMap_cons, List.length_append, ih, List.length_map, st_len, List.length_cons, Nat.succ_mul]; omega
  unfold pcF
  rw [this, st_len]
theorem pcs_len {L W : Int} : ∀ {B : List Bed} {z : Int}, ((pcsF L W B z).length : Int) = manyF B
  | [], _ => by simp [pcsF, manyF]
  | b :: B, z => by
    have ih := pcs_len (L := L) (W := W) (B := B) (z := z + b.h)
    unfold manyF at ih ⊢
    rw [pcsF, List.length_append, pc_len, List.map_cons, List.sum_cons, ← ih]
    push_cast
    rfl
theorem fl_len {W z : Int} {b : Bed} : ∀ l : List (Int × Int), (l.flatMap fun p => (stF b.ys W).map fun q => (⟨p.1, q.1, z, p.2, q.2, b.h, b.g, b.w⟩ : Pc)).length = l.length * (b.ys.length + 1)
  | [] => by simp
  | p :: l => by rw [List.flatMap_cons, List.length_append, fl_len l, List.length_map, st_len, List.length_cons, Nat.succ_mul]; omega
theorem ed_map {xs : List Int} {e : Int} : (edF xs e).map D.int = [D.int 0] ++ xs.map D.int ++ [D.int e] := by unfold edF; simp
theorem ed_len {xs : List Int} {e : Int} : (edF xs e).length = xs.length + 2 := by unfold edF; simp
theorem many_nonneg {B : List Bed} : 0 ≤ manyF B := by
  unfold manyF
  refine sum_nonneg fun x hx => ?_
  obtain ⟨b, _, rfl⟩ := List.mem_map.mp hx
  exact Int.mul_nonneg (by omega) (by omega)
theorem top_app {B : List Bed} {b : Bed} : topF (B ++ [b]) = topF B + b.h := by unfold topF; rw [List.map_append, List.sum_append]; simp

theorem ed_lt {xs : List Int} {e : Int} (h : riseOk xs e) (he : 0 < e) : (edF xs e).Pairwise (· < ·) := by
  unfold edF
  rw [List.append_assoc, List.singleton_append, List.pairwise_cons]
  refine ⟨fun x hx => ?_, List.pairwise_append.mpr ⟨h.1, by simp, fun a ha b hb => ?_⟩⟩
  · rcases List.mem_append.mp hx with q | q
    · exact (h.2.1 x q).1
    · simp at q; omega
  · simp at hb; subst hb; exact (h.2.1 a ha).2
theorem ed_get_lt {xs : List Int} {e : Int} (h : riseOk xs e) (he : 0 < e) {i j : Nat} (hij : i < j) (hj : j < xs.length + 2) : (edF xs e).getD i 0 < (edF xs e).getD j 0 := by
  have := List.pairwise_iff_getElem.mp (ed_lt h he) i j (by rw [ed_len]; omega) (by rw [ed_len]; omega) hij
  rw [List.getD_eq_getElem?_getD, List.getD_eq_getElem?_getD, List.getElem?_eq_getElem (by rw [ed_len]; omega), List.getElem?_eq_getElem (by rw [ed_len]; omega)]
  exact this
theorem ed_get_le {xs : List Int} {e : Int} (h : riseOk xs e) (he : 0 < e) {i j : Nat} (hij : i ≤ j) (hj : j < xs.length + 2) : (edF xs e).getD i 0 ≤ (edF xs e).getD j 0 := by
  rcases Nat.lt_or_eq_of_le hij with q | q
  · exact Int.le_of_lt (ed_get_lt h he q hj)
  · rw [q]; exact Int.le_refl _
theorem ed_zero {xs : List Int} {e : Int} : (edF xs e).getD 0 0 = 0 := by unfold edF; simp
theorem ed_end {xs : List Int} {e : Int} : (edF xs e).getD (xs.length + 1) 0 = e := by unfold edF; simp
theorem st_rise {xs : List Int} {e : Int} (h : riseOk xs e) (he : 0 < e) : (stF xs e).Pairwise (fun p q => p.1 + p.2 ≤ q.1) ∧ ∀ p, p ∈ stF xs e → 0 ≤ p.1 ∧ 1 ≤ p.2 ∧ p.1 + p.2 ≤ e := by
  unfold stF
  refine ⟨List.pairwise_map.mpr ?_, fun p hp => ?_⟩
  · refine (List.pairwise_lt_range (n := xs.length + 1)).imp_of_mem fun {i j} hi hj hij => ?_
    have hj := List.mem_range.mp hj
    have := ed_get_le h he (show i + 1 ≤ j by omega) (by omega)
    show (edF xs e).getD i 0 + ((edF xs e).getD (i + 1) 0 - (edF xs e).getD i 0) ≤ (edF xs e).getD j 0
    omega
  · obtain ⟨k, hk, rfl⟩ := List.mem_map.mp hp
    have hk := List.mem_range.mp hk
    have a := ed_get_le h he (Nat.zero_le k) (by omega)
    have b := ed_get_lt h he (show k < k + 1 by omega) (by omega)
    have c := ed_get_le h he (show k + 1 ≤ xs.length + 1 by omega) (by omega)
    rw [ed_zero] at a
    rw [ed_end] at c
    show 0 ≤ (edF xs e).getD k 0 ∧ 1 ≤ (edF xs e).getD (k + 1) 0 - (edF xs e).getD k 0 ∧ (edF xs e).getD k 0 + ((edF xs e).getD (k + 1) 0 - (edF xs e).getD k 0) ≤ e
    omega
theorem mem_pc {L W z : Int} {b : Bed} {p : Pc} (h : p ∈ pcF L W b z) : ∃ s t : Int × Int, s ∈ stF b.xs L ∧ t ∈ stF b.ys W ∧ p = ⟨s.1, t.1, z, s.2, t.2, b.h, b.g, b.w⟩ := by
  obtain ⟨s, hs, h⟩ := List.mem_flatMap.mp h
  obtain ⟨t, ht, rfl⟩ := List.mem_map.mp h
  exact ⟨s, t, hs, ht, rfl⟩
structure pcIn (L W z t : Int) (p : Pc) : Prop where
  x : 0 ≤ p.x ∧ 1 ≤ p.a ∧ p.x + p.a ≤ L
  y : 0 ≤ p.y ∧ 1 ≤ p.b ∧ p.y + p.b ≤ W
  z : z ≤ p.z ∧ 1 ≤ p.c ∧ p.z + p.c ≤ t
theorem pc_in {L W z : Int} {b : Bed} (hb : bedOk L W b) (hL : 0 < L) (hW : 0 < W) {p : Pc} (h : p ∈ pcF L W b z) : pcIn L W z (z + b.h) p := by
  obtain ⟨s, t, hs, ht, rfl⟩ := mem_pc h
  obtain ⟨h1, _, _, h4, h5⟩ := hb
  exact ⟨(st_rise h4 hL).2 s hs, (st_rise h5 hW).2 t ht, Int.le_refl _, h1.1, Int.le_refl _⟩
theorem top_nonneg {B : List Bed} (h : ∀ b, b ∈ B → 1 ≤ b.h) : 0 ≤ topF B := by
  have := top_le h 0
  simpa [topF] using this
theorem pcs_in {L W : Int} (hL : 0 < L) (hW : 0 < W) : ∀ {B : List Bed} {z : Int}, (∀ b, b ∈ B → bedOk L W b) → ∀ p, p ∈ pcsF L W B z → pcIn L W z (z + topF B) p
  | [], _, _, p, hp => by simp [pcsF] at hp
  | b :: B, z, h, p, hp => by
    have e : topF (b :: B) = b.h + topF B := by unfold topF; rw [List.map_cons, List.sum_cons]
    have h1 := (h b (by simp)).1.1
    have h0 := top_nonneg (B := B) fun c hc => (h c (List.mem_cons_of_mem _ hc)).1.1
    rw [pcsF] at hp
    rcases List.mem_append.mp hp with q | q
    · obtain ⟨a, c, d⟩ := pc_in (h b (by simp)) hL hW q
      exact ⟨a, c, by omega⟩
    · obtain ⟨a, c, d⟩ := pcs_in hL hW (fun c hc => h c (List.mem_cons_of_mem _ hc)) p q
      exact ⟨a, c, by omega⟩
def inB (x l p : Int) : Bool := decide (x ≤ p) && decide (p < x + l)
theorem sml_ints {n m : Nat} {xs : List Int} (h : ∀ x, x ∈ xs → 0 ≤ x ∧ x ≤ 1000000) (hl : xs.length ≤ m) : sml (m * 141) (n + 1) (intsD xs) := sml_lst (fun x hx => sml_int (by have := h x hx; omega)) hl
theorem sml_pc {n : Nat} {L W z t : Int} {p : Pc} (h : pcIn L W z t p) (hL : L ≤ 1000000) (hW : W ≤ 1000000) (h0 : 0 ≤ z) (ht : t ≤ 1000000) (hg : gLet p.g) (hw : 1 ≤ p.w ∧ p.w ≤ 1000) : sml 1000 (n + 2) (ppD p) := by
  obtain ⟨a, b, c⟩ := h
  refine sml_mono (sml_tup (.cons (sml_tup (.cons (sml_int ?_) (.cons (sml_int ?_) (.cons (sml_int ?_) (.cons (sml_int ?_) (.cons (sml_int ?_) (.cons (sml_int ?_) .nil))))))) (.cons (sml_let hg) (.cons (sml_int ?_) .nil)))) (by decide) <;> omega
theorem pcs_gw {L W : Int} : ∀ {B : List Bed} {z : Int} {p : Pc}, p ∈ pcsF L W B z → ∃ b, b ∈ B ∧ p.g = b.g ∧ p.w = b.w
  | [], _, _, h => by simp [pcsF] at h
  | b :: B, z, p, h => by
    rw [pcsF] at h
    rcases List.mem_append.mp h with q | q
    · obtain ⟨s, t, _, _, rfl⟩ := mem_pc q
      exact ⟨b, by simp, rfl, rfl⟩
    · obtain ⟨c, hc, e⟩ := pcs_gw q
      exact ⟨c, List.mem_cons_of_mem _ hc, e⟩
theorem sml_piece {n : Nat} {L W : Int} {B : List Bed} {p : Pc} (h : benchOk L W B) (hp : p ∈ pcsF L W B 0) : sml 1000 (n + 2) (ppD p) := by
  have hi := pcs_in (by have := h.1.1; omega) (by have := h.2.1.1; omega) h.2.2.2.1 p hp
  obtain ⟨b, hb, eg, ew⟩ := pcs_gw hp
  have ho := h.2.2.2.1 b hb
  exact sml_pc hi h.1.2 h.2.1.2 (Int.le_refl _) (by have := h.2.2.2.2.1; omega) (by rw [eg]; exact ho.2.1) (by rw [ew]; exact ho.2.2.1)

def jnB : D → Bool | .nd .lst ds => decide ((ds.length : Int) ≤ 23) && ds.all fun d => btB d 0 1000000 | _ => false
def bedB : D → Bool | .nd .tup [h, g, w, x, y] => btB h 1 1000000 && (grB g && (btB w 1 1000 && (jnB x && jnB y))) | _ => false
def bedsB : D → Bool | .nd .lst ds => (decide ((1 : Int) ≤ ds.length) && decide ((ds.length : Int) ≤ 6)) && ds.all bedB | _ => false
def spots (xs : List Int) : Prop := xs.length ≤ 23 ∧ ∀ x, x ∈ xs → 0 ≤ x ∧ x ≤ 1000000
def wbed (b : Bed) : Prop := M6 b.h ∧ gLet b.g ∧ (1 ≤ b.w ∧ b.w ≤ 1000) ∧ spots b.xs ∧ spots b.ys
def weak (L W : Int) (B : List Bed) : Prop := M6 L ∧ M6 W ∧ (1 ≤ B.length ∧ B.length ≤ 6) ∧ ∀ b, b ∈ B → wbed b
theorem jn_ints {xs : List Int} (h : spots xs) : jnB (intsD xs) = true := by
  simp only [jnB, List.length_map, Bool.and_eq_true, decide_eq_true_eq, List.all_map, List.all_eq_true, Function.comp]
  exact ⟨by have := h.1; omega, fun x hx => btI.mpr (h.2 x hx)⟩
theorem bed_ok {b : Bed} (h : wbed b) : bedB (bedD b) = true := by
  obtain ⟨h1, h2, h3, h4, h5⟩ := h
  simp only [bedB, btI.mpr h1, btI.mpr h3, jn_ints h4, jn_ints h5, grB, smB_let.mpr h2, Bool.and_self]
theorem beds_ok {B : List Bed} (h : (1 ≤ B.length ∧ B.length ≤ 6) ∧ ∀ b, b ∈ B → wbed b) : bedsB (bedsD B) = true := by
  simp only [bedsB, List.length_map, Bool.and_eq_true, decide_eq_true_eq, List.all_map, List.all_eq_true, Function.comp]
  exact ⟨by omega, fun b hb => bed_ok (h.2 b hb)⟩
def stB (e : Int) : Int → List Int → Bool
  | _, [] => true
  | l, j :: js => (decide (l < j) && decide (j < e)) && stB e j js
theorem stB_iff {e : Int} : ∀ {xs : List Int} {l : Int}, stB e l xs = true ↔ xs.Pairwise (· < ·) ∧ ∀ x, x ∈ xs → l < x ∧ x < e
  | [], l => by simp [stB]
  | j :: js, l => by
    simp only [stB, Bool.and_eq_true, decide_eq_true_eq, stB_iff (xs := js) (l := j), List.pairwise_cons, List.mem_cons]
    constructor
    · rintro ⟨⟨h1, h2⟩, h3, h4⟩
      exact ⟨⟨fun x hx => (h4 x hx).1, h3⟩, fun x hx => by rcases hx with rfl | hx; exact ⟨h1, h2⟩; have := h4 x hx; omega⟩
    · rintro ⟨⟨h1, h2⟩, h3⟩
      exact ⟨h3 j (.inl rfl), h2, fun x hx => ⟨h1 x hx, (h3 x (.inr hx)).2⟩⟩
theorem st_rise' {e : Int} {xs : List Int} (h : spots xs) (hs : stB e 0 xs = true) : riseOk xs e := by
  obtain ⟨a, b⟩ := stB_iff.mp hs
  exact ⟨a, b, h.1⟩
inductive Du where | bed (n : Nat) | many | told
def badAt (L W : Int) (B : List Bed) (k : Nat) : Bool := match B[k]? with
  | some b => !stB L 0 b.xs || (!stB W 0 b.ys || decide (1000000 < topF (B.take (k + 1))))
  | none => false
def duF (L W : Int) (B : List Bed) : Du := match (List.range B.length).find? (badAt L W B) with
  | some k => .bed k
  | none => if 24 < manyF B then .many else .told
theorem told_ok {L W : Int} {B : List Bed} (h : weak L W B) (hb : ∀ i, i < B.length → badAt L W B i = false) (hm : manyF B ≤ 24) : benchOk L W B := by
  obtain ⟨h1, h2, h3, h4⟩ := h
  have key : ∀ (i : Nat) (b : Bed), B[i]? = some b → stB L 0 b.xs = true ∧ stB W 0 b.ys = true ∧ topF (B.take (i + 1)) ≤ 1000000 := fun i b hi => by
    have := hb i (List.getElem?_eq_some_iff.mp hi).1
    unfold badAt at this
    rw [hi] at this
    simp only [Bool.or_eq_false_iff, Bool.not_eq_false', decide_eq_false_iff_not] at this
    exact ⟨this.1, this.2.1, by omega⟩
  refine ⟨h1, h2, h3, fun b hb => ?_, ?_, hm⟩
  · obtain ⟨i, hi⟩ := List.getElem?_of_mem hb
    obtain ⟨k1, k2, _⟩ := key i b hi
    obtain ⟨w1, w2, w3, w4, w5⟩ := h4 b hb
    exact ⟨w1, w2, w3, st_rise' w4 k1, st_rise' w5 k2⟩
  · have hl : B[B.length - 1]? = some B[B.length - 1] := List.getElem?_eq_getElem (by omega)
    have := (key _ _ hl).2.2
    rw [show B.length - 1 + 1 = B.length by omega, List.take_length] at this
    exact this
theorem ok_weak {L W : Int} {B : List Bed} (h : benchOk L W B) : weak L W B := ⟨h.1, h.2.1, h.2.2.1, fun b hb => by
  obtain ⟨h1, h2, h3, h4, h5⟩ := h.2.2.2.1 b hb
  have hL := h.1.2
  have hW := h.2.1.2
  exact ⟨h1, h2, h3, ⟨h4.2.2, fun x hx => by have := h4.2.1 x hx; omega⟩, ⟨h5.2.2, fun x hx => by have := h5.2.1 x hx; omega⟩⟩⟩
theorem ok_told {L W : Int} {B : List Bed} (h : benchOk L W B) : duF L W B = .told := by
  unfold duF
  rw [find_none fun i hi => ?_]
  · show (if 24 < manyF B then Du.many else Du.told) = _
    rw [if_neg (by have := h.2.2.2.2.2; omega)]
  · unfold badAt
    rw [List.getElem?_eq_getElem hi]
    obtain ⟨_, _, _, h4, h5⟩ := h.2.2.2.1 _ (List.getElem_mem hi)
    have ht := top_le (B := B) (fun b hb => (h.2.2.2.1 b hb).1.1) (i + 1)
    have := h.2.2.2.2.1
    simp only [Bool.or_eq_false_iff, Bool.not_eq_false', decide_eq_false_iff_not]
    exact ⟨stB_iff.mpr ⟨h4.1, h4.2.1⟩, stB_iff.mpr ⟨h5.1, h5.2.1⟩, by omega⟩
def jointsX : SemF := fun args Q E => ∃ d n k, args = [.fz d] ∧ gd n k d ∧ k ≤ 262144 ∧ Q (.fz (.bl (jnB d))) []
def bedX : SemF := fun args Q E => ∃ d n k, args = [.fz d] ∧ gd n k d ∧ k ≤ 262144 ∧ Q (.fz (.bl (bedB d))) []
def bedsX : SemF := fun args Q E => ∃ d n k, args = [.fz d] ∧ gd n k d ∧ k ≤ 262144 ∧ Q (.fz (.bl (bedsB d))) []
def standX : SemF := fun args Q E => ∃ (xs : List Int) (e : Int), args = [.fz (intsD xs), .fz (.int e)] ∧ Q (.fz (.bl (stB e 0 xs))) []
def gds (dl dw db : D) : Prop := (∃ n k, gd n k dl ∧ k ≤ 262144) ∧ (∃ n k, gd n k dw ∧ k ≤ 262144) ∧ ∃ n k, gd n k db ∧ k ≤ 262144
def rgts (dl dw db : D) : List Bool := [btB dl 1 1000000, btB dw 1 1000000, bedsB db]
def initXB (ca : Str → Addr) : SemF := fun args Q E => ∃ dl dw db : D, args = [.ow (.ins (ca "Bench") []) [], .fz dl, .fz dw, .fz db] ∧ gds dl dw db ∧
  ((∃ n, ff (rgts dl dw db) = some n ∧ ∀ o, E ⟨ca "Wrong", ["at"], [.int (n : Nat)]⟩ [o]) ∨ (∃ (L W : Int) (B : List Bed), dl = .int L ∧ dw = .int W ∧ db = bedsD B ∧ weak L W B ∧
    (∀ k, duF L W B = .bed k → ∀ o, E ⟨ca "NoBed", ["at"], [.int (k : Nat)]⟩ [o]) ∧ (duF L W B = .many → ∀ o, E ⟨ca "TooMany", ["most"], [.int 24]⟩ [o]) ∧
    (duF L W B = .told → benchOk L W B → Q (.fz .non) [.ow (.ins (ca "Bench") benK) (benV L W B)])))
def pcIx (L W : Int) (B : List Bed) (d : D) (Wr : Prop) (No : Int → Prop) (R : Pc → Prop) : Prop :=
  (whB d = false ∧ Wr) ∨ ∃ i : Int, d = .int i ∧ (((i < 1 ∨ ((pcsF L W B 0).length : Int) < i) ∧ No i) ∨ ∃ (n : Nat) (p : Pc), i = ((n + 1 : Nat) : Int) ∧ (pcsF L W B 0)[n]? = some p ∧ R p)
def pcX (ca : Str → Addr) (f : Pc → D) : SemF := fun args Q E => ∃ (L W : Int) (B : List Bed) (d : D), args = [.fz (benD ca L W B), .fz d] ∧ tyD d = true ∧ pcIx L W B d (E ⟨ca "Wrong", ["at"], [.int 0]⟩ []) (fun i => E ⟨ca "NoPiece", ["piece"], [.int i]⟩ []) fun p => Q (.fz (f p)) []
def boxF (p : Pc) : D := .nd .tup [.int p.x, .int p.y, .int p.z, .int p.a, .int p.b, .int p.c]
def keptXB (ca : Str → Addr) : SemF := pcX ca ppD
def bboxX (ca : Str → Addr) : SemF := pcX ca boxF
def grnX (ca : Str → Addr) : SemF := pcX ca fun p => .str p.g
def hvyX (ca : Str → Addr) : SemF := pcX ca fun p => .int p.w
theorem gd_split {dl dw db : D} {Wr : Nat → Prop} {R : Prop} (h : (∃ n, ff (rgts dl dw db) = some n ∧ Wr n) ∨ R) (hr : R → btB dl 1 1000000 = true ∧ btB dw 1 1000000 = true ∧ bedsB db = true) :
    (btB dl 1 1000000 = false → Wr 0) ∧ (btB dl 1 1000000 = true → btB dw 1 1000000 = false → Wr 1) ∧ (btB dl 1 1000000 = true → btB dw 1 1000000 = true → bedsB db = false → Wr 2) ∧ (btB dl 1 1000000 = true → btB dw 1 1000000 = true → bedsB db = true → R) := by
  rcases h with ⟨n, hn, hw⟩ | r
  · unfold rgts at hn
    generalize btB dl 1 1000000 = p at *
    generalize btB dw 1 1000000 = q at *
    generalize bedsB db = s at *
    cases p <;> cases q <;> cases s <;> simp [ff, List.findIdx?_cons] at hn <;> subst hn <;> simp [hw]
  · obtain ⟨e1, e2, e3⟩ := hr r
    rw [e1, e2, e3]
    simp [r]
theorem pcIx_imp {L W : Int} {B : List Bed} {d : D} {Wr Wr' : Prop} {No No' : Int → Prop} {R R' : Pc → Prop} (h : pcIx L W B d Wr No R) (h1 : Wr → Wr') (h2 : ∀ i, No i → No' i) (h3 : ∀ p, R p → R' p) : pcIx L W B d Wr' No' R' := by
  rcases h with ⟨a, b⟩ | ⟨i, rfl, ⟨a, b⟩ | ⟨n, p, a, b, c⟩⟩
  · exact .inl ⟨a, h1 b⟩
  · exact .inr ⟨i, rfl, .inl ⟨a, h2 i b⟩⟩
  · exact .inr ⟨i, rfl, .inr ⟨n, p, a, b, h3 p c⟩⟩
theorem gd_xs {n : Nat} {xs : List Int} (h : spots xs) : ∀ d, d ∈ xs.map D.int → gd n 140 d := fun d hd => by
  obtain ⟨x, hx, rfl⟩ := List.mem_map.mp hd
  exact gd_int (by have := h.2 x hx; omega)
theorem gd_ints {n : Nat} {xs : List Int} (h : spots xs) : gd (n + 1) 3243 (intsD xs) := gd_lst (m := 23) (gd_xs h) (by rw [List.length_map]; exact h.1)
theorem gd_bed {n : Nat} {b : Bed} (h : wbed b) : gd (n + 2) 6779 (bedD b) := by
  obtain ⟨h1, h2, h3, h4, h5⟩ := h
  unfold M6 at h1
  have a1 : gd (n + 1) 3243 (D.int b.h) := (gd_int (by omega)).mono (by decide)
  have a2 : gd (n + 1) 3243 (D.str b.g) := (gd_str h2).mono (by decide)
  have a3 : gd (n + 1) 3243 (D.int b.w) := (gd_int (by omega)).mono (by decide)
  have a4 : gd (n + 1) 3243 (intsD b.xs) := gd_ints h4
  have a5 : gd (n + 1) 3243 (intsD b.ys) := gd_ints h5
  have hm : ∀ d, d ∈ [D.int b.h, D.str b.g, D.int b.w, intsD b.xs, intsD b.ys] → gd (n + 1) 3243 d := fun d hd => by
    simp only [List.mem_cons, List.not_mem_nil, or_false] at hd
    rcases hd with rfl | rfl | rfl | rfl | rfl <;> assumption
  refine ⟨pt_tup fun d hd => (hm d hd).pt, shrts_all fun d hd => (hm d hd).sh, ?_⟩
  have b1 := (gd_int (n := 0) (i := b.h) (by omega)).sz
  have b2 := (gd_str (n := 0) h2).sz
  have b3 := (gd_int (n := 0) (i := b.w) (by omega)).sz
  have b4 := a4.sz
  have b5 := a5.sz
  rw [szD]
  simp only [szDs]
  omega
theorem gd_beds {n : Nat} {B : List Bed} (h : ∀ b, b ∈ B → wbed b) (hl : B.length ≤ 6) : gd (n + 3) 40680 (bedsD B) := gd_lst (n := n + 2) (m := 6) (fun d hd => by
  obtain ⟨b, hb, rfl⟩ := List.mem_map.mp hd
  exact gd_bed (n := n) (h b hb)) (by rw [List.length_map]; exact hl)
theorem gds_ok {L W : Int} {B : List Bed} (h : weak L W B) : gds (.int L) (.int W) (bedsD B) :=
  ⟨⟨0, 140, gd_int (by have := h.1; unfold M6 at this; omega), by decide⟩, ⟨0, 140, gd_int (by have := h.2.1; unfold M6 at this; omega), by decide⟩, ⟨3, 40680, gd_beds (n := 0) h.2.2.2 h.2.2.1.2, by decide⟩⟩
theorem sml_spots {n : Nat} {xs : List Int} (h : spots xs) : sml 3243 (n + 1) (intsD xs) := sml_ints (m := 23) h.2 h.1
theorem sml_wbed {n : Nat} {b : Bed} (h : wbed b) : sml 6779 (n + 2) (bedD b) := by
  obtain ⟨h1, h2, h3, h4, h5⟩ := h
  unfold M6 at h1
  exact sml_mono (sml_tup (.cons (sml_int (by omega)) (.cons (sml_let h2) (.cons (sml_int (by omega)) (.cons (sml_spots h4) (.cons (sml_spots h5) .nil)))))) (by decide)
theorem sml_wbeds {n : Nat} {B : List Bed} (h : ∀ b, b ∈ B → wbed b) (hl : B.length ≤ 6) : sml 40680 (n + 3) (bedsD B) :=
  sml_lst (fun b hb => sml_wbed (h b hb)) hl
structure Pl where (x w d : Int) (g l : Str)
abbrev plD (p : Pl) : D := .nd .tup [.int p.x, .int p.w, .int p.d, .str p.g, .str p.l]
structure Co where (h : Int) (ps : List Pl)
abbrev psD (ps : List Pl) : D := .nd .lst (ps.map plD)
abbrev coD (c : Co) : D := .nd .tup [.int c.h, psD c.ps]
abbrev cosD (C : List Co) : D := .nd .lst (C.map coD)
abbrev wallK : List Str := ["kept_courses"]
abbrev walD (ca : Str → Addr) (C : List Co) : D := .nd (.ins (ca "Wall") wallK) [cosD C]
def gEmp (g : Str) : Prop := gLet g ∨ g = ""
def Lie (l : Str) : Prop := l = "along" ∨ l = "across" ∨ l = "either"
def plOk (p : Pl) : Prop := 0 ≤ p.x ∧ M6 p.w ∧ M6 p.d ∧ gEmp p.g ∧ Lie p.l ∧ p.x + p.w ≤ 1000000
def inRow : Int → List Pl → Prop
  | _, [] => True
  | e, p :: r => e ≤ p.x ∧ inRow (p.x + p.w) r
def coOk (c : Co) : Prop := M6 c.h ∧ (∀ p, p ∈ c.ps → plOk p) ∧ inRow 0 c.ps ∧ c.ps.length ≤ 24
def shB (p q : Pl) : Bool := decide (p.x < q.x + q.w) && decide (q.x < p.x + p.w)
abbrev Mk := Int × Int
abbrev mkD (m : Mk) : D := .nd .tup [.int m.1, .int m.2]
abbrev mksD (ms : List Mk) : D := .nd .lst (ms.map mkD)
def rowMk (k : Int) (n : Nat) : List Mk := (List.range n).map fun j => (k, ((j : Nat) : Int) + 1)
def mksF : List Co → Int → List Mk
  | [], _ => []
  | c :: C, k => rowMk k c.ps.length ++ mksF C (k + 1)
def psIn (C : List Co) (k : Int) : List Pl := if 1 ≤ k then match C[(k - 1).toNat]? with | some c => c.ps | none => [] else []
def shF (p : Pl) (k : Int) (ps : List Pl) : List Mk := ((List.range ps.length).filter fun j => match ps[j]? with | some q => shB p q | none => false).map fun j => (k, ((j : Nat) : Int) + 1)
def plAt (C : List Co) (m : Mk) : Option Pl := (psIn C m.1)[(m.2 - 1).toNat]?
def bsF (C : List Co) (m : Mk) (k : Int) : List Mk := match plAt C m with | some p => shF p k (psIn C k) | none => []
def totF (C : List Co) : Nat := (C.map (·.ps.length)).sum
def wallOk (C : List Co) : Prop := (1 ≤ C.length ∧ C.length ≤ 6) ∧ (∀ c, c ∈ C → coOk c) ∧ totF C ≤ 24 ∧ ∀ m, m ∈ mksF C 1 → 1 < m.1 → bsF C m (m.1 - 1) ≠ []
def needD (C : List Co) (m : Mk) (p : Pl) : D := match C[(m.1 - 1).toNat]? with | some c => .nd .tup [.int p.w, .int p.d, .int c.h, .str p.g, .str p.l] | none => .non
theorem mem_rowMk {k : Int} {n : Nat} {m : Mk} : m ∈ rowMk k n ↔ ∃ j, j < n ∧ m = (k, ((j : Nat) : Int) + 1) := by
  unfold rowMk
  rw [List.mem_map]
  exact ⟨fun ⟨j, hj, e⟩ => ⟨j, List.mem_range.mp hj, e.symm⟩, fun ⟨j, hj, e⟩ => ⟨j, List.mem_range.mpr hj, e.symm⟩⟩
theorem mem_mks : ∀ {C : List Co} {k : Int} {m : Mk}, m ∈ mksF C k ↔ ∃ (i j : Nat) (c : Co), C[i]? = some c ∧ j < c.ps.length ∧ m = (k + i, ((j : Nat) : Int) + 1)
  | [], k, m => by simp [mksF]
  | c :: C, k, m => by
    rw [mksF, List.mem_append, mem_rowMk, mem_mks]
    constructor
    · rintro (⟨j, hj, rfl⟩ | ⟨i, j, c', h1, h2, rfl⟩)
      · exact ⟨0, j, c, rfl, hj, by simp⟩
      · exact ⟨i + 1, j, c', by simpa using h1, h2, by push_cast; rw [show k + ((i : Int) + 1) = k + 1 + i by omega]⟩
    · rintro ⟨i, j, c', h1, h2, rfl⟩
      cases i with
      | zero => simp at h1; subst h1; exact .inl ⟨j, h2, by simp⟩
      | succ i => exact .inr ⟨i, j, c', by simpa using h1, h2, by push_cast; rw [show k + ((i : Int) + 1) = k + 1 + i by omega]⟩
theorem mks_at {C : List Co} {m : Mk} (h : m ∈ mksF C 1) : ∃ (i j : Nat) (c : Co) (p : Pl), C[i]? = some c ∧ c.ps[j]? = some p ∧ m = ((i : Int) + 1, (j : Int) + 1) ∧ psIn C m.1 = c.ps ∧ plAt C m = some p := by
  obtain ⟨i, j, c, h1, h2, rfl⟩ := mem_mks.mp h
  have e1 : psIn C (1 + (i : Int), (j : Int) + 1).1 = c.ps := by
    unfold psIn
    simp only
    rw [if_pos (by omega), show (1 + (i : Int) - 1).toNat = i by omega, h1]
  refine ⟨i, j, c, c.ps[j], h1, List.getElem?_eq_getElem h2, by rw [Int.add_comm], e1, ?_⟩
  unfold plAt
  rw [e1]
  simp only
  rw [show ((j : Int) + 1 - 1).toNat = j by omega, List.getElem?_eq_getElem h2]
def shareS : SemF := fun args Q E => ∃ p q : Pl, args = [.fz (plD p), .fz (plD q)] ∧ Q (.fz (.bl (shB p q))) []
def marksW (ca : Str → Addr) : SemF := fun args Q E => ∃ C : List Co, args = [.fz (walD ca C)] ∧ totF C ≤ 100000 ∧ Q (.fz (mksD (mksF C 1))) []
def coursesW (ca : Str → Addr) : SemF := fun args Q E => ∃ C : List Co, args = [.fz (walD ca C)] ∧ Q (.fz (cosD C)) []
def placesW (ca : Str → Addr) : SemF := fun args Q E => ∃ (C : List Co) (k : Int), args = [.fz (walD ca C), .fz (.int k)] ∧ Q (.fz (psD (psIn C k))) []
theorem tot_cast : ∀ {C : List Co}, (C.map fun c => ((c.ps.length : Nat) : Int)).sum = (((C.map fun c => c.ps.length).sum : Nat) : Int)
  | [] => rfl
  | c :: C => by rw [List.map_cons, List.sum_cons, tot_cast, List.map_cons, List.sum_cons]; omega
def atP (ps : List Pl) (k : Nat) : D := match ps[k]? with | some p => plD p | none => .non
theorem enum_ps {ps : List Pl} : enumD (ps.map plD) = (List.range ps.length).map fun k => D.nd .tup [.int (k : Nat), atP ps k] := by
  unfold enumD
  apply List.ext_getElem
  · simp
  · intro i h1 h2
    have hi : i < ps.length := by simpa using h2
    simp [atP, hi]
theorem mks_snoc : ∀ {C : List Co} {k : Int} {j : Nat} {c : Co}, C[j]? = some c → mksF (C.take (j + 1)) k = mksF (C.take j) k ++ rowMk (k + j) c.ps.length
  | [], _, _, _, h => by simp at h
  | d :: C, k, 0, c, h => by simp at h; subst h; simp [mksF]
  | d :: C, k, j + 1, c, h => by
    have ih := mks_snoc (C := C) (k := k + 1) (j := j) (c := c) (by simpa using h)
    rw [List.take_succ_cons, List.take_succ_cons, mksF, mksF, ih, List.append_assoc, show k + 1 + (j : Int) = k + ((j + 1 : Nat) : Int) by omega]
theorem mks_len : ∀ {C : List Co} {k : Int}, (mksF C k).length = totF C
  | [], _ => rfl
  | c :: C, k => by rw [mksF, List.length_append, mks_len]; unfold rowMk totF; simp
theorem tot_le {C : List Co} {j : Nat} {c : Co} (h : C[j]? = some c) : totF (C.take j) + c.ps.length ≤ totF C := by
  have e : totF C = totF (C.take (j + 1)) + totF (C.drop (j + 1)) := by
    unfold totF
    rw [← List.sum_append, ← List.map_append, List.take_append_drop]
  have e2 : totF (C.take (j + 1)) = totF (C.take j) + c.ps.length := by
    unfold totF
    rw [List.take_succ, h, Option.toList_some, List.map_append, List.sum_append]; simp
  omega
theorem psIn_at {C : List Co} {i : Nat} {c : Co} {k : Int} (h : C[i]? = some c) (hk : k = (i : Int) + 1) : psIn C k = c.ps := by
  unfold psIn
  rw [if_pos (by omega), show (k - 1).toNat = i by omega, h]
theorem psIn_no {C : List Co} {k : Int} (h : ¬ (1 ≤ k ∧ k ≤ (C.length : Int))) : psIn C k = [] := by
  unfold psIn
  split
  · rw [List.getElem?_eq_none (by omega)]
  · rfl
theorem pl_mk {n : Nat} {m : Mk} : (mkD m).pl (n + 1) = true := pl_tup fun d hd => by
  simp only [List.mem_cons, List.not_mem_nil, or_false] at hd
  rcases hd with rfl | rfl <;> cases n <;> rfl
theorem pl_mks {n : Nat} {ms : List Mk} : (mksD ms).pl (n + 2) = true := pl_lst fun d hd => by
  obtain ⟨m, _, rfl⟩ := List.mem_map.mp hd
  exact pl_mk

abbrev strsD (gs : List Str) : D := .nd .lst (gs.map .str)
def edgF (ps : List Pl) : List Int := ps.foldl (fun a p => a ++ [p.x, p.x + p.w]) [1, 4, 5]
def wideS : SemF := fun args Q E => ∃ t, args = [t] ∧ IsBag t ∧ ∀ (v : Int) t', M6 v → IsBag t' → Q (.fz (.int v)) [t']
def lplaceS : SemF := fun args Q E => ∃ (t : T) (gs : List Str) (a b : Int), args = [t, .fz (strsD gs), .fz (.int a), .fz (.int b)] ∧ IsBag t ∧ (∀ g, g ∈ gs → gLet g) ∧ gs.length ≤ 3 ∧ 0 ≤ a ∧ a < b ∧ b ≤ 1000000 ∧ ∀ (p : Pl) t', plOk p → p.x = a → p.x + p.w = b → IsBag t' → Q (.fz (plD p)) [t']
def lrowS : SemF := fun args Q E => ∃ (t : T) (gs : List Str) (n : Int) (es : List Int), args = [t, .fz (strsD gs), .fz (.int n), .fz (intsD es)] ∧ IsBag t ∧ (∀ g, g ∈ gs → gLet g) ∧ gs.length ≤ 3 ∧ 0 ≤ n ∧ n ≤ 24 ∧ (1 ≤ es.length ∧ es.length ≤ 1000) ∧ ∀ (ps : List Pl) t', (∀ p, p ∈ ps → plOk p) → inRow 0 ps → (ps.length : Int) ≤ n → IsBag t' → Q (.fz (psD ps)) [t']
def lshareS : SemF := fun args Q E => ∃ p q : Pl, args = [.fz (plD p), .fz (plD q)] ∧ 0 < p.w ∧ 0 < q.w ∧ Q (.fz (.bl (shB p q))) []
def edgesS : SemF := fun args Q E => ∃ ps : List Pl, args = [.fz (psD ps)] ∧ ps.length ≤ 24 ∧ Q (.fz (intsD (edgF ps))) []
def shutS : SemF := fun args Q E => ∃ t, args = [t] ∧ IsBag t ∧ ∀ (C : List Co) t', wallOk C → IsBag t' → Q (.fz (cosD C)) [t']
def rowEnd : Int → List Pl → Int
  | e, [] => e
  | _, p :: r => rowEnd (p.x + p.w) r
theorem inRow_snoc : ∀ {ps : List Pl} {e : Int} {p : Pl}, inRow e ps → rowEnd e ps ≤ p.x → inRow e (ps ++ [p])
  | [], _, _, _, h => ⟨h, trivial⟩
  | q :: ps, e, p, h, h2 => ⟨h.1, inRow_snoc (ps := ps) h.2 h2⟩
theorem rowEnd_snoc : ∀ {ps : List Pl} {e : Int} {p : Pl}, rowEnd e (ps ++ [p]) = p.x + p.w
  | [], _, _ => rfl
  | q :: ps, _, p => rowEnd_snoc (ps := ps)
theorem inRow_le : ∀ {ps : List Pl} {e d : Int}, d ≤ e → inRow e ps → inRow d ps
  | [], _, _, _, _ => trivial
  | p :: ps, e, d, h, r => ⟨by have := r.1; omega, r.2⟩
theorem inRow_filter {f : Pl → Bool} : ∀ {ps : List Pl} {e : Int}, (∀ p, p ∈ ps → 0 ≤ p.w) → inRow e ps → inRow e (ps.filter f)
  | [], _, _, _ => trivial
  | p :: ps, e, hw, h => by
    have ih := inRow_filter (f := f) (ps := ps) (fun q hq => hw q (List.mem_cons_of_mem _ hq)) h.2
    have := hw p (by simp)
    have := h.1
    rw [List.filter_cons]
    split
    · exact ⟨h.1, ih⟩
    · exact inRow_le (by omega) ih
theorem edgF_snoc {ps : List Pl} {j : Nat} {p : Pl} (h : ps[j]? = some p) : edgF (ps.take (j + 1)) = edgF (ps.take j) ++ [p.x, p.x + p.w] := by
  unfold edgF
  rw [List.take_succ, h, Option.toList_some, List.foldl_append]; rfl
theorem edgF_len : ∀ {ps : List Pl}, (edgF ps).length = 3 + 2 * ps.length := by
  have k : ∀ (ps : List Pl) (a : List Int), (ps.foldl (fun a p => a ++ [p.x, p.x + p.w]) a).length = a.length + 2 * ps.length := fun ps => by
    induction ps with
    | nil => simp
    | cons p ps ih => intro a; rw [List.foldl_cons, ih]; simp; omega
  intro ps
  unfold edgF
  rw [k]; rfl
theorem psIn_app {C : List Co} {c : Co} {k : Int} (h : k ≤ (C.length : Int)) : psIn (C ++ [c]) k = psIn C k := by
  unfold psIn
  split
  · rw [List.getElem?_append_left (by omega)]
  · rfl
theorem shF_ne {p : Pl} {k : Int} {ps : List Pl} (h : ps.any (shB p) = true) : shF p k ps ≠ [] := by
  obtain ⟨q, hq, hs⟩ := List.any_eq_true.mp h
  obtain ⟨i, hi⟩ := List.getElem?_of_mem hq
  have hl := (List.getElem?_eq_some_iff.mp hi).1
  intro e
  have : (k, ((i : Nat) : Int) + 1) ∈ shF p k ps := by
    unfold shF
    exact List.mem_map.mpr ⟨i, List.mem_filter.mpr ⟨List.mem_range.mpr hl, by rw [hi]; exact hs⟩, rfl⟩
  rw [e] at this
  simp at this
theorem borne_snoc {C : List Co} {c : Co} (h : ∀ m, m ∈ mksF C 1 → 1 < m.1 → bsF C m (m.1 - 1) ≠ []) (hc : 1 ≤ C.length → ∀ p, p ∈ c.ps → (psIn C (C.length : Nat)).any (shB p) = true) : ∀ m, m ∈ mksF (C ++ [c]) 1 → 1 < m.1 → bsF (C ++ [c]) m (m.1 - 1) ≠ [] := by
  intro m hm h1
  obtain ⟨i, j, d, hi, hj, rfl⟩ := mem_mks.mp hm
  have hil := (List.getElem?_eq_some_iff.mp hi).1
  rw [List.length_append, List.length_singleton] at hil
  have h1 : 1 < 1 + (i : Int) := h1
  rcases Nat.lt_or_ge i C.length with q | q
  · have hi2 : C[i]? = some d := by rw [List.getElem?_append_left q] at hi; exact hi
    have e1 : bsF (C ++ [c]) (1 + (i : Int), (j : Int) + 1) (1 + (i : Int) - 1) = bsF C (1 + (i : Int), (j : Int) + 1) (1 + (i : Int) - 1) := by
      unfold bsF plAt
      rw [psIn_app (by simp only; omega), psIn_app (by omega)]
    show bsF (C ++ [c]) (1 + (i : Int), (j : Int) + 1) (1 + (i : Int) - 1) ≠ []
    rw [e1]
    exact h _ (mem_mks.mpr ⟨i, j, d, hi2, hj, rfl⟩) h1
  · have : i = C.length := by omega
    subst this
    have hd : d = c := by rw [List.getElem?_append_right (Nat.le_refl _)] at hi; simpa using hi.symm
    subst hd
    show bsF (C ++ [d]) (1 + ((C.length : Nat) : Int), (j : Int) + 1) (1 + ((C.length : Nat) : Int) - 1) ≠ []
    have e1 : psIn (C ++ [d]) (1 + ((C.length : Nat) : Int)) = d.ps := psIn_at (i := C.length) (by rw [List.getElem?_append_right (Nat.le_refl _)]; simp) (by omega)
    unfold bsF plAt
    simp only
    rw [e1, show ((j : Int) + 1 - 1).toNat = j by omega, List.getElem?_eq_getElem hj, psIn_app (by omega), show 1 + ((C.length : Nat) : Int) - 1 = (C.length : Nat) by omega]
    exact shF_ne (hc (by omega) _ (List.getElem_mem hj))
theorem tot_snoc {C : List Co} {c : Co} : totF (C ++ [c]) = totF C + c.ps.length := by unfold totF; rw [List.map_append, List.sum_append]; simp
def lieL (x : Str) : Bool := decide (x = "along") || (decide (x = "across") || decide (x = "either"))
def lieB : D → Bool | .str x => lieL x | _ => false
def emB : D → Bool | .str x => decide (x = "") | _ => false
def mkB : D → Bool | .nd .tup [a, b] => btB a 1 24 && btB b 1 24 | _ => false
def plB : D → Bool | .nd .tup [a, b, c, g, l] => btB a 0 1000000 && (btB b 1 1000000 && (btB c 1 1000000 && ((grB g || emB g) && lieB l))) | _ => false
def psB : D → Bool | .nd .lst ps => decide ((ps.length : Int) ≤ 24) && ps.all plB | _ => false
def coB : D → Bool | .nd .tup [h, ps] => btB h 1 1000000 && psB ps | _ => false
def cosB : D → Bool | .nd .lst cs => (decide ((1 : Int) ≤ cs.length) && decide ((cs.length : Int) ≤ 6)) && cs.all coB | _ => false
def wpl (p : Pl) : Prop := (0 ≤ p.x ∧ p.x ≤ 1000000) ∧ M6 p.w ∧ M6 p.d ∧ gEmp p.g ∧ Lie p.l
def wco (c : Co) : Prop := M6 c.h ∧ (∀ p, p ∈ c.ps → wpl p) ∧ c.ps.length ≤ 24
def weakW (C : List Co) : Prop := (1 ≤ C.length ∧ C.length ≤ 6) ∧ ∀ c, c ∈ C → wco c
theorem lie_iff {x : Str} : lieL x = true ↔ Lie x := by
  unfold lieL Lie
  simp only [Bool.or_eq_true, decide_eq_true_eq]
theorem ge_iff {x : Str} : (grB (.str x) || emB (.str x)) = true ↔ gEmp x := by
  show (smB x || decide (x = "")) = true ↔ _
  rw [Bool.or_eq_true, smB_let, decide_eq_true_eq]; rfl
theorem pl_okB {p : Pl} (h : wpl p) : plB (plD p) = true := by
  obtain ⟨h1, h2, h3, h4, h5⟩ := h
  show (btB (.int p.x) 0 1000000 && (btB (.int p.w) 1 1000000 && (btB (.int p.d) 1 1000000 && ((grB (.str p.g) || emB (.str p.g)) && lieL p.l)))) = true
  rw [btI.mpr h1, btI.mpr h2, btI.mpr h3, ge_iff.mpr h4, lie_iff.mpr h5]; rfl
theorem ps_okB {ps : List Pl} (h : ∀ p, p ∈ ps → wpl p) (hl : ps.length ≤ 24) : psB (psD ps) = true := by
  show (decide (((ps.map plD).length : Int) ≤ 24) && (ps.map plD).all plB) = true
  rw [List.length_map, List.all_map, decide_eq_true (by omega), Bool.true_and, List.all_eq_true]
  exact fun p hp => pl_okB (h p hp)
theorem co_okB {c : Co} (h : wco c) : coB (coD c) = true := by
  show (btB (.int c.h) 1 1000000 && psB (psD c.ps)) = true
  rw [btI.mpr h.1, ps_okB h.2.1 h.2.2]; rfl
theorem cos_okB {C : List Co} (h : weakW C) : cosB (cosD C) = true := by
  show ((decide ((1 : Int) ≤ (C.map coD).length) && decide (((C.map coD).length : Int) ≤ 6)) && (C.map coD).all coB) = true
  have h1 := h.1
  rw [List.length_map, List.all_map, decide_eq_true (by omega), decide_eq_true (by omega), Bool.true_and, Bool.true_and, List.all_eq_true]
  exact fun c hc => co_okB (h.2 c hc)
def bdM (m : Mk) : Prop := (1 ≤ m.1 ∧ m.1 ≤ 24) ∧ (1 ≤ m.2 ∧ m.2 ≤ 24)
theorem mk_okB {m : Mk} (h : bdM m) : mkB (mkD m) = true := by
  show (btB (.int m.1) 1 24 && btB (.int m.2) 1 24) = true
  rw [btI.mpr h.1, btI.mpr h.2]; rfl
def endB (ps : List Pl) : Nat → Int
  | 0 => 0
  | j + 1 => match ps[j]? with | some p => p.x + p.w | none => 0
def ordB (ps : List Pl) (j : Nat) : Bool := match ps[j]? with | some p => decide (p.x < endB ps j) || decide ((1000000 : Int) < p.x + p.w) | none => false
def ordF (ps : List Pl) : Option Nat := (List.range ps.length).find? (ordB ps)
def badM (C : List Co) (m : Mk) : Bool := ordB (psIn C m.1) (m.2 - 1).toNat
inductive Dw where | place (m : Mk) | many | unb (m : Mk) | told
def duW (C : List Co) : Dw := match (mksF C 1).find? (badM C) with
  | some m => .place m
  | none => if 24 < totF C then .many else match (mksF C 1).find? (fun m => decide (1 < m.1) && (bsF C m (m.1 - 1)).isEmpty) with
    | some m => .unb m
    | none => .told
def preW (C : List Co) : Prop := (1 ≤ C.length ∧ C.length ≤ 6) ∧ (∀ c, c ∈ C → coOk c) ∧ totF C ≤ 24
def big (d : D) : Prop := ∃ n k, gd n k d ∧ k ≤ 262144
def lieX : SemF := fun args Q E => ∃ d, args = [.fz d] ∧ tyD d = true ∧ Q (.fz (.bl (lieB d))) []
def markX : SemF := fun args Q E => ∃ d, args = [.fz d] ∧ tyA d = true ∧ Q (.fz (.bl (mkB d))) []
def placeX : SemF := fun args Q E => ∃ d, args = [.fz d] ∧ big d ∧ Q (.fz (.bl (plB d))) []
def courseX : SemF := fun args Q E => ∃ d, args = [.fz d] ∧ big d ∧ Q (.fz (.bl (coB d))) []
def coursesX : SemF := fun args Q E => ∃ d, args = [.fz d] ∧ big d ∧ Q (.fz (.bl (cosB d))) []
def orderX (ca : Str → Addr) : SemF := fun args Q E => ∃ (k : Int) (ps : List Pl), args = [.fz (.int k), .fz (psD ps)] ∧ (∀ j, ordF ps = some j → E ⟨ca "NoPlace", ["mark"], [mkD (k, ((j : Nat) : Int) + 1)]⟩ []) ∧ (ordF ps = none → Q (.fz .non) [])
def initX (ca : Str → Addr) : SemF := fun args Q E => ∃ d : D, args = [.ow (.ins (ca "Wall") []) [], .fz d] ∧ big d ∧
  ((cosB d = false ∧ ∀ o, E ⟨ca "Wrong", ["at"], [.int 0]⟩ [o]) ∨ (∃ C, d = cosD C ∧ weakW C ∧
    (∀ m, duW C = .place m → ∀ o, E ⟨ca "NoPlace", ["mark"], [mkD m]⟩ [o]) ∧ (duW C = .many → ∀ o, E ⟨ca "TooMany", ["most"], [.int 24]⟩ [o]) ∧
    (∀ m, duW C = .unb m → ∀ o, E ⟨ca "Unborne", ["mark"], [mkD m]⟩ [o]) ∧ (duW C = .told → wallOk C → Q (.fz .non) [.fz (walD ca C)])))
def mkIx (ca : Str → Addr) (C : List Co) (d : D) (E : Rz → List T → Prop) (R : Mk → Pl → Prop) : Prop :=
  (mkB d = false ∧ E ⟨ca "Wrong", ["at"], [.int 0]⟩ []) ∨ ∃ m : Mk, d = mkD m ∧ bdM m ∧ ((plAt C m = none ∧ E ⟨ca "NoMark", ["mark"], [mkD m]⟩ []) ∨ ∃ p, plAt C m = some p ∧ R m p)
def keptX (ca : Str → Addr) : SemF := fun args Q E => ∃ (C : List Co) (d : D), args = [.fz (walD ca C), .fz d] ∧ tyA d = true ∧ mkIx ca C d E fun m p => Q (.fz (plD p)) []
def needX (ca : Str → Addr) : SemF := fun args Q E => ∃ (C : List Co) (d : D), args = [.fz (walD ca C), .fz d] ∧ tyA d = true ∧ mkIx ca C d E fun m p => Q (.fz (needD C m p)) []
def sharingX (ca : Str → Addr) : SemF := fun args Q E => ∃ (C : List Co) (m : Mk) (k : Int) (p : Pl), args = [.fz (walD ca C), .fz (mkD m), .fz (.int k)] ∧ bdM m ∧ plAt C m = some p ∧ Q (.fz (mksD (bsF C m k))) []
def beneathX (ca : Str → Addr) : SemF := fun args Q E => ∃ (C : List Co) (d : D), args = [.fz (walD ca C), .fz d] ∧ tyA d = true ∧ mkIx ca C d E fun m p => Q (.fz (mksD (bsF C m (m.1 - 1)))) []
def uponX (ca : Str → Addr) : SemF := fun args Q E => ∃ (C : List Co) (d : D), args = [.fz (walD ca C), .fz d] ∧ tyA d = true ∧ mkIx ca C d E fun m p => Q (.fz (mksD (bsF C m (m.1 + 1)))) []
def shDw (C : List Co) (m : Mk) : D := .nd .tup [(match plAt C m with | some p => needD C m p | none => .non), mksD (bsF C m (m.1 - 1)), mksD (bsF C m (m.1 + 1))]
theorem mkIx_imp {ca : Str → Addr} {C : List Co} {d : D} {E E' : Rz → List T → Prop} {R R' : Mk → Pl → Prop} (h : mkIx ca C d E R) (he : ∀ {r}, E r [] → E' r []) (hr : ∀ m p, d = mkD m → bdM m → plAt C m = some p → R m p → R' m p) : mkIx ca C d E' R' := by
  rcases h with ⟨a, b⟩ | ⟨m, rfl, hm, ⟨a, b⟩ | ⟨p, a, b⟩⟩
  · exact .inl ⟨a, he b⟩
  · exact .inr ⟨m, rfl, hm, .inl ⟨a, he b⟩⟩
  · exact .inr ⟨m, rfl, hm, .inr ⟨p, a, hr m p rfl hm a b⟩⟩
theorem plAt_ex {C : List Co} {m : Mk} {p : Pl} (hm : bdM m) (h : plAt C m = some p) : ∃ (i j : Nat) (c : Co), C[i]? = some c ∧ c.ps[j]? = some p ∧ m.1 = (i : Int) + 1 ∧ m.2 = (j : Int) + 1 := by
  obtain ⟨h1, h2⟩ := hm
  unfold plAt psIn at h
  rw [if_pos h1.1] at h
  cases e : C[(m.1 - 1).toNat]? with
  | none => rw [e] at h; simp at h
  | some c =>
    rw [e] at h
    exact ⟨_, _, c, e, h, by omega, by omega⟩
theorem mem_plAt {C : List Co} {m : Mk} (h : m ∈ mksF C 1) : plAt C m ≠ none := by
  obtain ⟨i, j, c, p, _, _, _, _, e⟩ := mks_at h
  rw [e]; simp
theorem pre_bd {C : List Co} (h : preW C) {m : Mk} (hm : m ∈ mksF C 1) : bdM m := by
  obtain ⟨i, j, c, hi, hj, rfl⟩ := mem_mks.mp hm
  have h1 := (List.getElem?_eq_some_iff.mp hi).1
  have h2 := h.1.2
  have h3 := (h.2.1 c (List.mem_of_getElem? hi)).2.2.2
  exact ⟨⟨by show 1 ≤ 1 + (i : Int); omega, by show 1 + (i : Int) ≤ 24; omega⟩, by show 1 ≤ (j : Int) + 1; omega, by show (j : Int) + 1 ≤ 24; omega⟩
theorem wall_bd {C : List Co} (h : wallOk C) {m : Mk} (hm : m ∈ mksF C 1) : bdM m := pre_bd ⟨h.1, h.2.1, h.2.2.1⟩ hm
theorem find_at {α : Type} {p : α → Bool} {l : List α} {j : Nat} {a : α} (h : l[j]? = some a) (ha : p a = true) (hb : ∀ (i : Nat) (x : α), i < j → l[i]? = some x → p x = false) : l.find? p = some a := by
  obtain ⟨hl, he⟩ := List.getElem?_eq_some_iff.mp h
  rw [List.find?_eq_some_iff_getElem]
  refine ⟨ha, j, hl, he, fun i hi => ?_⟩
  rw [hb i _ hi (List.getElem?_eq_getElem (by omega))]; rfl
theorem mks_split {C : List Co} {j : Nat} {c : Co} (h : C[j]? = some c) : mksF C 1 = mksF (C.take j) 1 ++ (rowMk ((j : Int) + 1) c.ps.length ++ mksF (C.drop (j + 1)) ((j : Int) + 2)) := by
  obtain ⟨hl, he⟩ := List.getElem?_eq_some_iff.mp h
  have e : C = C.take j ++ (c :: C.drop (j + 1)) := by rw [← he, ← List.drop_eq_getElem_cons hl, List.take_append_drop]
  have ap : ∀ (A B : List Co) (k : Int), mksF (A ++ B) k = mksF A k ++ mksF B (k + A.length) := fun A => by
    induction A with
    | nil => intro B k; simp [mksF]
    | cons a A ih => intro B k; rw [List.cons_append, mksF, mksF, ih, List.append_assoc, List.length_cons]; congr 2; congr 1; push_cast; omega
  conv => lhs; rw [e]
  rw [ap, mksF, List.length_take, Nat.min_eq_left (by omega)]
  congr 2
  · congr 1; omega
  · congr 1; omega
theorem bad_row {C : List Co} {j : Nat} {c : Co} (h : C[j]? = some c) (i : Nat) : badM C ((j : Int) + 1, (i : Int) + 1) = ordB c.ps i := by
  unfold badM
  rw [psIn_at h rfl]
  simp only
  rw [show ((i : Int) + 1 - 1).toNat = i by omega]
theorem du_place {C : List Co} {j : Nat} {c : Co} (h : C[j]? = some c) (hno : ∀ m, m ∈ mksF (C.take j) 1 → badM C m = false) {i : Nat} (hi : ordF c.ps = some i) : duW C = .place ((j : Int) + 1, (i : Int) + 1) := by
  unfold ordF at hi
  rw [List.find?_range_eq_some] at hi
  obtain ⟨h1, h2, h3⟩ := hi
  have hf : (mksF C 1).find? (badM C) = some ((j : Int) + 1, (i : Int) + 1) := by
    rw [mks_split h, List.find?_append, List.find?_eq_none.mpr (fun m hm => by rw [hno m hm]; decide), Option.none_or, List.find?_append]
    have : (rowMk ((j : Int) + 1) c.ps.length).find? (badM C) = some ((j : Int) + 1, (i : Int) + 1) := by
      unfold rowMk
      rw [List.find?_map]
      have e : (badM C ∘ fun k : Nat => ((j : Int) + 1, ((k : Nat) : Int) + 1)) = ordB c.ps := by
        funext k; exact bad_row h k
      rw [e, find_first (j := i) (fun k hk => by have := h3 k hk; simpa using this) h1 (List.mem_range.mp h2)]
      rfl
    rw [this]; rfl
  unfold duW
  rw [hf]
theorem place_none {C : List Co} {j : Nat} {c : Co} (h : C[j]? = some c) (hno : ∀ m, m ∈ mksF (C.take j) 1 → badM C m = false) (hi : ordF c.ps = none) : ∀ m, m ∈ mksF (C.take (j + 1)) 1 → badM C m = false := by
  intro m hm
  rw [mks_snoc h, List.mem_append] at hm
  rcases hm with q | q
  · exact hno m q
  · obtain ⟨i, hil, rfl⟩ := mem_rowMk.mp q
    unfold ordF at hi
    rw [List.find?_eq_none] at hi
    have := hi i (List.mem_range.mpr hil)
    rw [Int.add_comm 1 (j : Int), bad_row h]
    simpa using this
theorem row_of {ps : List Pl} (hw : ∀ p, p ∈ ps → wpl p) (h : ∀ j, j < ps.length → ordB ps j = false) : inRow 0 ps ∧ ∀ p, p ∈ ps → p.x + p.w ≤ 1000000 := by
  have key : ∀ (k : Nat) (e : Int), k ≤ ps.length → e = endB ps k → inRow e (ps.drop k) := by
    intro k
    induction hk : ps.length - k generalizing k with
    | zero => intro e hl _; rw [List.drop_eq_nil_of_le (by omega)]; trivial
    | succ n ih =>
      intro e hl he
      have hlt : k < ps.length := by omega
      rw [List.drop_eq_getElem_cons hlt]
      have ho := h k hlt
      unfold ordB at ho
      rw [List.getElem?_eq_getElem hlt] at ho
      simp only [Bool.or_eq_false_iff, decide_eq_false_iff_not] at ho
      refine ⟨by rw [he]; omega, ih (k + 1) (by omega) _ (by omega) ?_⟩
      show _ = (match ps[k]? with | some p => p.x + p.w | none => 0)
      rw [List.getElem?_eq_getElem hlt]
  refine ⟨key 0 0 (Nat.zero_le _) rfl, fun p hp => ?_⟩
  obtain ⟨i, hi⟩ := List.getElem?_of_mem hp
  have ho := h i (List.getElem?_eq_some_iff.mp hi).1
  unfold ordB at ho
  rw [hi] at ho
  simp only [Bool.or_eq_false_iff, decide_eq_false_iff_not] at ho
  omega
theorem pre_ok {C : List Co} (h : weakW C) (hno : ∀ m, m ∈ mksF C 1 → badM C m = false) (ht : totF C ≤ 24) : preW C := by
  refine ⟨h.1, fun c hc => ?_, ht⟩
  obtain ⟨i, hi⟩ := List.getElem?_of_mem hc
  obtain ⟨w1, w2, w3⟩ := h.2 c hc
  obtain ⟨r1, r2⟩ := row_of w2 fun j hj => by
    rw [← bad_row hi j]
    exact hno _ (mem_mks.mpr ⟨i, j, c, hi, hj, by rw [Int.add_comm]⟩)
  refine ⟨w1, fun p hp => ?_, r1, w3⟩
  obtain ⟨q1, q2, q3, q4, q5⟩ := w2 p hp
  exact ⟨q1.1, q2, q3, q4, q5, r2 p hp⟩
theorem lie_any {x : Str} : ((["along", "across", "either"] : List Str).any fun y => eqV (V.str y) (V.str x)) = lieL x := by
  have e : ∀ y : Str, eqV (V.str y) (V.str x) = decide (x = y) := fun y => by
    rw [Bool.eq_iff_iff, decide_eq_true_eq]
    show (y == x) = true ↔ _
    rw [beq_iff_eq]
    exact eq_comm
  simp only [List.any_cons, List.any_nil, e, Bool.or_false]
  rfl
theorem pl_parts {p : Pl} (h : wpl p) : ∀ d, d ∈ [D.int p.x, .int p.w, .int p.d, .str p.g, .str p.l] → gd 1 140 d := fun d hd => by
  obtain ⟨h1, h2, h3, h4, h5⟩ := h
  unfold M6 at h2 h3
  simp only [List.mem_cons, List.not_mem_nil, or_false] at hd
  rcases hd with rfl | rfl | rfl | rfl | rfl
  · exact gd_int (by omega)
  · exact gd_int (by omega)
  · exact gd_int (by omega)
  · rcases h4 with h4 | h4
    · exact (gd_str h4).mono (by decide)
    · rw [h4]; exact gd_iff.mp (by decide +kernel)
  · rcases h5 with h5 | h5 | h5 <;> (rw [h5]; exact gd_iff.mp (by decide +kernel))
theorem gd_pl {p : Pl} (h : wpl p) : gd 2 705 (plD p) := gd_tup (n := 1) (m := 5) (pl_parts h) (by simp)
theorem gd_ps {ps : List Pl} (h : ∀ p, p ∈ ps → wpl p) (hl : ps.length ≤ 24) : gd 3 16944 (psD ps) := gd_lst (n := 2) (m := 24) (fun d hd => by
  obtain ⟨p, hp, rfl⟩ := List.mem_map.mp hd
  exact gd_pl (h p hp)) (by rw [List.length_map]; exact hl)
theorem gd_co {c : Co} (h : wco c) : gd 4 33890 (coD c) := gd_tup (n := 3) (m := 2) (k := 16944) (fun d hd => by
  obtain ⟨h1, h2, h3⟩ := h
  unfold M6 at h1
  simp only [List.mem_cons, List.not_mem_nil, or_false] at hd
  rcases hd with rfl | rfl
  · exact (gd_int (by omega)).mono (by decide)
  · exact gd_ps h2 h3) (by simp)
theorem gd_cos {C : List Co} (h : weakW C) : gd 5 203346 (cosD C) := gd_lst (n := 4) (m := 6) (fun d hd => by
  obtain ⟨c, hc, rfl⟩ := List.mem_map.mp hd
  exact gd_co (h.2 c hc)) (by rw [List.length_map]; exact h.1.2)
theorem big_cos {C : List Co} (h : weakW C) : big (cosD C) := ⟨5, _, gd_cos h, by decide⟩
theorem wall_weak {C : List Co} (h : wallOk C) : weakW C := ⟨h.1, fun c hc => by
  obtain ⟨h1, h2, h3, h4⟩ := h.2.1 c hc
  refine ⟨h1, fun p hp => ?_, h4⟩
  obtain ⟨q1, q2, q3, q4, q5, q6⟩ := h2 p hp
  have := q2.1
  exact ⟨⟨q1, by omega⟩, q2, q3, q4, q5⟩⟩
theorem ord_none {ps : List Pl} (h : inRow 0 ps) (hp : ∀ p, p ∈ ps → p.x + p.w ≤ 1000000) (j : Nat) : ordB ps j = false := by
  have key : ∀ (k : Nat), k ≤ ps.length → inRow (endB ps k) (ps.drop k) := by
    intro k
    induction k with
    | zero => intro _; exact h
    | succ k ih =>
      intro hk
      have := ih (by omega)
      rw [List.drop_eq_getElem_cons (by omega)] at this
      have e : endB ps (k + 1) = ps[k].x + ps[k].w := by show (match ps[k]? with | some p => p.x + p.w | none => 0) = _; rw [List.getElem?_eq_getElem (by omega)]
      rw [e]
      exact this.2
  unfold ordB
  cases hj : ps[j]? with
  | none => rfl
  | some p =>
    have hl := (List.getElem?_eq_some_iff.mp hj).1
    have := key j (by omega)
    rw [List.drop_eq_getElem_cons hl, (List.getElem?_eq_some_iff.mp hj).2] at this
    have h1 := this.1
    have h2 := hp p (List.mem_of_getElem? hj)
    simp only [Bool.or_eq_false_iff, decide_eq_false_iff_not]
    omega
theorem wall_told {C : List Co} (h : wallOk C) : duW C = .told := by
  have h1 : (mksF C 1).find? (badM C) = none := List.find?_eq_none.mpr fun m hm => by
    obtain ⟨i, j, c, p, hi, hj, hme, _, _⟩ := mks_at hm
    rw [hme, bad_row hi]
    obtain ⟨_, c2, c3, _⟩ := h.2.1 c (List.mem_of_getElem? hi)
    rw [ord_none c3 (fun p hp => (c2 p hp).2.2.2.2.2) j]; decide
  have h2 : (mksF C 1).find? (fun m => decide (1 < m.1) && (bsF C m (m.1 - 1)).isEmpty) = none := List.find?_eq_none.mpr fun m hm => by
    by_cases q : 1 < m.1
    · have := h.2.2.2 m hm q
      cases e : bsF C m (m.1 - 1) with
      | nil => exact absurd e this
      | cons a b => simp
    · simp [q]
  unfold duW
  rw [h1, h2]
  exact if_neg (by have := h.2.2.1; omega)
theorem sml_empW {n : Nat} {g : Str} (h : gEmp g) : sml 8 n (.str g) := by
  rcases h with h | h
  · exact sml_let h
  · rw [h]; exact sml_mono (sml_strL (g := "") (m := 0) (by decide) (by decide)) (by decide)
theorem sml_lieW {n : Nat} {g : Str} (h : Lie g) : sml 8 n (.str g) := by
  rcases h with h | h | h
  · rw [h]; exact sml_mono (sml_strL (g := "along") (m := 8) (by decide) (by decide)) (by decide)
  · rw [h]; exact sml_mono (sml_strL (g := "across") (m := 8) (by decide) (by decide)) (by decide)
  · rw [h]; exact sml_mono (sml_strL (g := "either") (m := 8) (by decide) (by decide)) (by decide)
theorem sml_wpl {n : Nat} {p : Pl} (h : wpl p) : sml 500 (n + 1) (plD p) := by
  obtain ⟨h1, h2, h3, h4, h5⟩ := h
  unfold M6 at h2 h3
  exact sml_mono (sml_tup (.cons (sml_int (by omega)) (.cons (sml_int (by omega)) (.cons (sml_int (by omega)) (.cons (sml_empW h4) (.cons (sml_lieW h5) .nil)))))) (by decide)
theorem sml_wco {n : Nat} {c : Co} (h : wco c) : sml 12500 (n + 3) (coD c) := by
  obtain ⟨h1, h2, h3⟩ := h
  unfold M6 at h1
  exact sml_mono (sml_tup (.cons (sml_int (by omega)) (.cons (sml_lst (m := 24) (fun p hp => sml_wpl (n := n) (h2 p hp)) h3) .nil))) (by decide)
theorem sml_wcos {n : Nat} {C : List Co} (h : weakW C) : sml 75006 (n + 4) (cosD C) := sml_lst (m := 6) (fun c hc => sml_wco (n := n) (h.2 c hc)) h.1.2
theorem sml_mkb {n : Nat} {m : Mk} (h : m.1.natAbs ≤ 1000 ∧ m.2.natAbs ≤ 1000) : sml 300 (n + 1) (mkD m) := sml_mono (sml_tup (.cons (sml_int (by omega)) (.cons (sml_int (by omega)) .nil))) (by decide)
theorem weak_small {C : List Co} (h : weakW C) {m : Mk} (hm : m ∈ mksF C 1) : m.1.natAbs ≤ 1000 ∧ m.2.natAbs ≤ 1000 := by
  obtain ⟨i, j, c, hi, hj, rfl⟩ := mem_mks.mp hm
  have h1 := (List.getElem?_eq_some_iff.mp hi).1
  have h2 := h.1.2
  have h3 := (h.2 c (List.mem_of_getElem? hi)).2.2
  exact ⟨by show (1 + (i : Int)).natAbs ≤ 1000; omega, by show ((j : Int) + 1).natAbs ≤ 1000; omega⟩
theorem sz_pls : ∀ {ps : List Pl}, (∀ p, p ∈ ps → wpl p) → szDs (ps.map plD) ≤ 501 * ps.length
  | [], _ => by simp [szDs]
  | p :: ps, h => by
    have h1 := (sml_wpl (n := 0) (h p (by simp))).2.2
    have h2 := sz_pls (ps := ps) fun q hq => h q (List.mem_cons_of_mem _ hq)
    simp only [List.map_cons, szDs, List.length_cons]
    omega
theorem sz_cos : ∀ {C : List Co}, (∀ c, c ∈ C → wco c) → szDs (C.map coD) ≤ 150 * C.length + 501 * totF C
  | [], _ => by simp [szDs]
  | c :: C, h => by
    obtain ⟨h1, h2, h3⟩ := h c (by simp)
    unfold M6 at h1
    have q1 := sz_pls h2
    have q2 := sz_cos (C := C) fun q hq => h q (List.mem_cons_of_mem _ hq)
    have e : totF (c :: C) = c.ps.length + totF C := by unfold totF; rw [List.map_cons, List.sum_cons]
    have q3 : szD (.int c.h) ≤ 140 := (sml_int (n := 0) (i := c.h) (by omega)).2.2
    have q4 : szD (coD c) = szDs [.int c.h, psD c.ps] := by rw [szD]
    have q5 : szD (psD c.ps) = szDs (c.ps.map plD) := by rw [szD]
    rw [List.map_cons, szDs, q4, e, List.length_cons]
    simp only [szDs]
    rw [q5]
    omega
theorem two_le {C : List Co} {k : Int} : (psIn C (k - 1)).length + (psIn C (k + 1)).length ≤ totF C := by
  have one : ∀ (C : List Co) (k : Int), (psIn C k).length ≤ totF C := fun C k => by
    unfold psIn
    split
    · split
      · rename_i c hc
        have := tot_le hc
        omega
      · simp
    · simp
  by_cases h : ∃ c, 1 ≤ k + 1 ∧ C[(k + 1 - 1).toNat]? = some c
  · obtain ⟨c, h1, hc⟩ := h
    have e : psIn C (k + 1) = c.ps := psIn_at hc (by omega)
    have h2 := tot_le hc
    have h3 := one (C.take (k + 1 - 1).toNat) (k - 1)
    have h4 : psIn (C.take (k + 1 - 1).toNat) (k - 1) = psIn C (k - 1) := by
      unfold psIn
      split
      · rw [List.getElem?_take, if_pos (by omega)]
      · rfl
    rw [h4] at h3
    rw [e]
    omega
  · have e : psIn C (k + 1) = [] := by
      unfold psIn
      split
      · split
        · rename_i h1 _ c hc
          exact absurd ⟨c, h1, hc⟩ h
        · rfl
      · rfl
    have := one C (k - 1)
    rw [e]
    simpa using this
theorem bs_le {C : List Co} {m : Mk} {k : Int} : (bsF C m k).length ≤ (psIn C k).length := by
  unfold bsF
  split
  · unfold shF
    rw [List.length_map]
    exact Nat.le_trans (List.length_filter_le _ _) (by simp)
  · simp
theorem bs_small {C : List Co} (h : weakW C) {m x : Mk} {k : Int} (hx : x ∈ bsF C m k) (hk : k.natAbs ≤ 1000) : x.1.natAbs ≤ 1000 ∧ x.2.natAbs ≤ 1000 := by
  have hp24 : (psIn C k).length ≤ 24 := by
    unfold psIn
    split
    · split
      · rename_i c hc
        exact (h.2 c (List.mem_of_getElem? hc)).2.2
      · simp
    · simp
  unfold bsF at hx
  split at hx
  · unfold shF at hx
    obtain ⟨j, hj, rfl⟩ := List.mem_map.mp hx
    have := List.mem_range.mp (List.mem_filter.mp hj).1
    exact ⟨hk, by show ((j : Int) + 1).natAbs ≤ 1000; omega⟩
  · simp at hx
theorem sml_mksL {n : Nat} {ms : List Mk} (h : ∀ x, x ∈ ms → x.1.natAbs ≤ 1000 ∧ x.2.natAbs ≤ 1000) : sml (301 * ms.length) (n + 2) (mksD ms) := by
  have := sml_lst (n := n + 1) (k := 300) (m := ms.length) (f := mkD) (fun x hx => sml_mkb (n := n) (h x hx)) (Nat.le_refl _)
  rwa [Nat.mul_comm] at this
def isDk : D → Bool | .nd (.dK []) [] => true | _ => false
def oD : Option Int → D | none => .non | some i => .int i
def iS (i : Int) : Str := toString i
abbrev lsD (ws : List Str) : D := .nd .lst (ws.map .str)
def digL (l : List Nat) : Bool := l.all fun c => decide (48 ≤ c) && decide (c ≤ 57)
def whF (x : Str) : Option Int := if TL.tl x = [] ∨ 22 < x.length ∨ ((TL.tl x).head? = some 48 ∧ 1 < x.length) ∨ digL (TL.tl x) = false then none else some (NumText.digitsVal (TL.tl x) : Nat)
def shT (x : Str) : Prop := x.length ≤ 1000000
def wholeInS : SemF := fun args Q E => ∃ x, args = [.fz (.str x)] ∧ shT x ∧ Q (.fz (oD (whF x))) []
theorem iS_tl {i : Int} (h : 0 ≤ i) : TL.tl (iS i) = TL.numL i.toNat := by
  have e : i = ((i.toNat : Nat) : Int) := by omega
  have := TL.tl_num i.toNat
  rw [← e] at this
  exact this
theorem iS_len {i : Int} {k : Nat} (hk : 0 < k) (h : 0 ≤ i) (h2 : i.toNat < 10 ^ k) : (iS i).length ≤ k := by
  rw [TL.len_tl, iS_tl h]
  exact TL.numL_len hk h2
theorem iS_log {i : Int} (h : i.natAbs ≤ 1000000) : i.natAbs.log2 < 1920 := by
  have : i.natAbs.log2 ≤ i.natAbs := Nat.log2_le_self _
  by_cases h0 : i.natAbs = 0
  · rw [h0]; decide
  have h1 : i.natAbs.log2 < 20 := (Nat.log2_lt h0).mpr (by omega)
  omega
theorem numL_head (n : Nat) : (TL.numL n).head? = some 48 → (TL.numL n).length ≤ 1 := by
  induction n using Nat.strongRecOn with
  | _ n ih =>
    by_cases h : n < 10
    · rw [TL.numL_lt h]; intro _; simp
    · rw [TL.numL_step (by omega)]
      intro h2
      have hne := TL.numL_ne (n / 10)
      obtain ⟨c, r, e⟩ : ∃ c r, TL.numL (n / 10) = c :: r := by
        cases q : TL.numL (n / 10) with
        | nil => exact absurd q hne
        | cons c r => exact ⟨c, r, rfl⟩
      rw [e] at h2
      have hc : c = 48 := by simpa using h2
      have h3 := ih (n / 10) (by omega) (by rw [e, hc]; rfl)
      by_cases h5 : n / 10 < 10
      · rw [TL.numL_lt h5] at e
        injection e with e1 _
        omega
      · rw [TL.numL_step (by omega), List.length_append] at h3
        have h6 := List.length_pos_iff.mpr (TL.numL_ne (n / 10 / 10))
        simp at h3
        exact absurd h3 (TL.numL_ne _)
theorem digL_num (n : Nat) : digL (TL.numL n) = true := by
  unfold digL
  rw [List.all_eq_true]
  intro c hc
  have := TL.numL_digits n c hc
  simp only [Bool.and_eq_true, decide_eq_true_eq]
  omega
theorem wh_iS {i : Int} (h : 0 ≤ i) (h2 : i ≤ 1000000) : whF (iS i) = some i := by
  unfold whF
  rw [iS_tl h]
  have hl := iS_len (k := 7) (by decide) h (by omega)
  rw [if_neg]
  · rw [TL.numL_val]
    congr 1
    omega
  · rintro (z | z | ⟨z, z2⟩ | z)
    · exact TL.numL_ne _ z
    · omega
    · have := numL_head _ z
      rw [TL.len_tl, iS_tl h] at z2
      omega
    · rw [digL_num] at z
      cases z
theorem free_num {i : Int} {s : Nat} (h : 0 ≤ i) (hs : s < 48 ∨ 57 < s) : s ∉ TL.tl (iS i) := by
  rw [iS_tl h]
  exact TL.numL_free hs
theorem split_num {y : Str} {s : Nat} (ey : TL.tl y = [s]) (hk : y.cps.all (· < 256) = true) (hs : s < 48 ∨ 57 < s) {is : List Int} (hne : is ≠ []) (hi : ∀ i, i ∈ is → 0 ≤ i) : Txt.split (Txt.join y (is.map iS)) y = is.map iS := by
  exact TL.split_join (parts := is.map iS) ey hk (fun z => hne (List.map_eq_nil_iff.mp z)) fun p hp => by
    obtain ⟨i, h, rfl⟩ := List.mem_map.mp hp
    exact free_num (hi i h) hs
theorem joinL_mem {S : List Nat} {c : Nat} : ∀ ls : List (List Nat), c ∈ TL.joinL S ls → c ∈ S ∨ ∃ l, l ∈ ls ∧ c ∈ l
  | [], h => by simp [TL.joinL] at h
  | [p], h => .inr ⟨p, by simp, by simpa [TL.joinL] using h⟩
  | p :: q :: r, h => by
    simp only [TL.joinL, List.mem_append] at h
    rcases h with h | h | h
    · exact .inr ⟨p, by simp, h⟩
    · exact .inl h
    · rcases joinL_mem (q :: r) h with z | ⟨l, hl, z⟩
      · exact .inl z
      · exact .inr ⟨l, List.mem_cons_of_mem _ hl, z⟩
theorem joinL_len {S : List Nat} {k : Nat} : ∀ ls : List (List Nat), (∀ l, l ∈ ls → l.length ≤ k) → (TL.joinL S ls).length ≤ ls.length * (k + S.length)
  | [], _ => by simp [TL.joinL]
  | [p], h => by have := h p (by simp); simp [TL.joinL]; omega
  | p :: q :: r, h => by
    have h1 := h p (by simp)
    have h2 := joinL_len (S := S) (k := k) (q :: r) fun l hl => h l (List.mem_cons_of_mem _ hl)
    simp only [TL.joinL, List.length_append]
    rw [List.length_cons (a := p), Nat.add_mul]
    omega
theorem join_tl (y : Str) (ws : List Str) : TL.tl (Txt.join y ws) = TL.joinL (TL.tl y) (ws.map TL.tl) := by
  rw [TL.join_eq]; exact TL.tl_join y ws
theorem join_len {y : Str} {ws : List Str} {k : Nat} (h : ∀ x, x ∈ ws → x.length ≤ k) : (Txt.join y ws).length ≤ ws.length * (k + y.length) := by
  rw [TL.len_tl, join_tl, TL.len_tl y]
  have := joinL_len (S := TL.tl y) (k := k) (ws.map TL.tl) fun l hl => by
    obtain ⟨x, hx, rfl⟩ := List.mem_map.mp hl
    rw [← TL.len_tl]; exact h x hx
  rwa [List.length_map] at this
theorem str_eq {x y : Str} (h : eqD (.str x) (.str y) = true) : x = y := by simpa [eqD] using h
theorem str_ne {x y : Str} (h : eqD (.str x) (.str y) = false) : ¬ x = y := fun e => by subst e; simp [eqD] at h
theorem ch_eq {c : Nat} (h : eqD (.str ⟨#[c]⟩) (.str "0") = true) : c = 48 := by
  have e := congrArg TL.tl (str_eq h)
  have e2 : ([c] : List Nat) = [48] := e
  injection e2
theorem ch_ne {c : Nat} (h : eqD (.str ⟨#[c]⟩) (.str "0") = false) : ¬ c = 48 := fun e => str_ne h (TL.ext_tl (by subst e; rfl))
theorem fig_mem {c : Nat} (h : (decide (48 ≤ c) && decide (c ≤ 57)) = true) : c ∈ TL.tl "0123456789" := by
  simp only [Bool.and_eq_true, decide_eq_true_eq] at h
  have e : TL.tl "0123456789" = [48, 49, 50, 51, 52, 53, 54, 55, 56, 57] := rfl
  rw [e]
  simp
  omega
theorem mem_fig {c : Nat} (h : c ∈ TL.tl "0123456789") : (decide (48 ≤ c) && decide (c ≤ 57)) = true := by
  have e : TL.tl "0123456789" = [48, 49, 50, 51, 52, 53, 54, 55, 56, 57] := rfl
  rw [e] at h
  simp only [Bool.and_eq_true, decide_eq_true_eq]
  simp at h
  omega
theorem HandSX_int {x : Str} (h : digL (TL.tl x) = true) (hn : TL.tl x ≠ []) (hl : x.length ≤ 4300) : PySem.intText? x = some ((NumText.digitsVal (TL.tl x) : Nat) : Int) := by
  refine intText_digits (x := x) ?_ hn hl
  unfold digL at h
  rw [List.all_eq_true] at h
  intro c hc
  have := h c hc
  simp only [Bool.and_eq_true, decide_eq_true_eq] at this
  exact this
theorem sum_lens {k : Nat} : ∀ {ys : List Str}, (∀ x, x ∈ ys → x.length ≤ k) → (ys.map (·.length)).sum ≤ ys.length * k
  | [], _ => by simp
  | y :: ys, h => by
    have h1 := h y (by simp)
    have h2 := sum_lens (k := k) (ys := ys) fun z hz => h z (List.mem_cons_of_mem _ hz)
    simp only [List.map_cons, List.sum_cons, List.length_cons, Nat.add_mul]
    omega
theorem spl_le {S : List Nat} : ∀ (l : List Nat) (k : Nat) (acc p : List Nat), p ∈ TL.spl S k acc l → p.length ≤ acc.length + l.length
  | [], k, acc, p, h => by
    rw [TL.spl_nil] at h
    simp at h
    subst h
    omega
  | c :: r, 0, acc, p, h => by
    by_cases hp : TL.pre S (c :: r) = true
    · rw [TL.spl_hit hp] at h
      rcases List.mem_cons.mp h with rfl | h
      · omega
      · have := spl_le r _ _ _ h
        simp at this ⊢
        omega
    · rw [TL.spl_miss (by simpa using hp)] at h
      have := spl_le r _ _ _ h
      simp at this ⊢
      omega
  | c :: r, k + 1, acc, p, h => by
    have h : p ∈ TL.spl S k acc r := h
    have := spl_le r _ _ _ h
    simp
    omega
theorem split_part1 {x y p : Str} (hy : TL.tl y ≠ []) (hk : y.cps.all (· < 256) = true) (h : p ∈ Txt.split x y) : p.length ≤ x.length := by
  have e := TL.split_spl x y hy (TL.kind_ok hk)
  have hm : TL.tl p ∈ (Txt.split x y).map TL.tl := List.mem_map.mpr ⟨p, h, rfl⟩
  rw [e] at hm
  have := spl_le _ _ _ _ hm
  rw [TL.len_tl p, TL.len_tl x]
  simpa using this
def sepOk (y : Str) : Bool := y.cps.all (· < 256) && !y.cps.isEmpty
theorem split_part {x y p : Str} (h : p ∈ Txt.split x y) (hs : sepOk y = true := by decide +kernel) : p.length ≤ x.length := by
  unfold sepOk at hs
  simp only [Bool.and_eq_true, Bool.not_eq_true'] at hs
  refine split_part1 (fun e => ?_) hs.1 h
  have := hs.2
  have e2 : y.cps = #[] := Array.toList_inj.mp e
  rw [e2] at this
  cases this
theorem szT {x : Str} (h : shT x) : x.length + 2 ≤ sizeLine := by
  have : x.length ≤ 1000000 := h
  rw [sizeLine_eq]; omega
theorem tyD_oD {o : Option Int} : tyD (oD o) = true := by cases o <;> rfl
theorem getD_at {ws : List Str} {k : Nat} (h : k < ws.length) : ws[k]? = some (ws.getD k "") := by
  rw [List.getD_eq_getElem?_getD, List.getElem?_eq_getElem h]; rfl
theorem map_get {ws : List Str} {k : Nat} {x : Str} (h : ws[k]? = some x) : (ws.map D.str)[k]? = some (.str x) := by
  rw [List.getElem?_map, h]; rfl
theorem split_len {x y : Str} : (Txt.split x y).length ≤ x.length + 2 := by
  have := PyProof.Rows.split_le x y
  omega
theorem split_ne {x y : Str} (hs : sepOk y = true := by decide +kernel) : Txt.split x y ≠ [] := fun e => by
  unfold sepOk at hs
  simp only [Bool.and_eq_true, Bool.not_eq_true'] at hs
  have hy : TL.tl y ≠ [] := fun e => by
    have e2 : y.cps = #[] := Array.toList_inj.mp e
    have := hs.2
    rw [e2] at this
    cases this
  have e2 := TL.split_spl x y hy (TL.kind_ok hs.1)
  rw [e] at e2
  have : ∀ (l : List Nat) (k : Nat) (acc : List Nat), TL.spl (TL.tl y) k acc l ≠ [] := by
    intro l
    induction l with
    | nil => intro k acc; rw [TL.spl_nil]; simp
    | cons c r ih =>
      intro k acc
      cases k with
      | zero =>
        by_cases hp : TL.pre (TL.tl y) (c :: r) = true
        · rw [TL.spl_hit hp]; simp
        · rw [TL.spl_miss (by simpa using hp)]; exact ih _ _
      | succ k => exact ih k acc
  exact this _ _ _ e2.symm
theorem asc_num {i : Int} (h : 0 ≤ i) : ∀ c, c ∈ TL.tl (iS i) → c < 128 := fun c hc => by
  rw [iS_tl h] at hc
  have := TL.numL_digits _ c hc
  omega
theorem asc_join {y : Str} {ws : List Str} (hy : ∀ c, c ∈ TL.tl y → c < 128) (h : ∀ x, x ∈ ws → ∀ c, c ∈ TL.tl x → c < 128) : ∀ c, c ∈ TL.tl (Txt.join y ws) → c < 128 := fun c hc => by
  rw [join_tl] at hc
  rcases joinL_mem _ hc with q | ⟨l, hl, q⟩
  · exact hy c q
  · obtain ⟨x, hx, rfl⟩ := List.mem_map.mp hl
    exact h x hx c q
def wsOk (ws : List Str) : Prop := ws ≠ [] ∧ ws.length ≤ 2000000 ∧ ∀ x, x ∈ ws → shT x
def allIn (a b : Int) : List (Option Int) → Option (List Int)
  | [] => some []
  | some i :: r => if a ≤ i ∧ i ≤ b then (allIn a b r).map (i :: ·) else none
  | none :: _ => none
def jtF (x : Str) : Option (List Int) := if x = "-" then some [] else if 23 < (Txt.split x ",").length then none else allIn 0 1000000 ((Txt.split x ",").map whF)
def jtD (x : Str) : D := match jtF x with | none => .non | some xs => intsD xs
def bdF (ws : List Str) : Option Bed := if ws.length = 6 ∧ ws.getD 0 "" = "bed" then match whF (ws.getD 1 ""), whF (ws.getD 3 ""), jtF (ws.getD 4 ""), jtF (ws.getD 5 "") with
  | some h, some w, some xs, some ys => if (1 ≤ h ∧ h ≤ 1000000) ∧ smB (ws.getD 2 "") = true ∧ (1 ≤ w ∧ w ≤ 1000) then some ⟨h, ws.getD 2 "", w, xs, ys⟩ else none
  | _, _, _, _ => none
  else none
def bdD (ws : List Str) : D := match bdF ws with | none => .non | some b => bedD b
def placF (ws : List Str) : Option Pl := if ws.length = 6 ∧ ws.getD 0 "" = "place" then match whF (ws.getD 1 ""), whF (ws.getD 2 ""), whF (ws.getD 3 "") with
  | some x, some w, some d => if (ws.getD 4 "" = "-" ∨ smB (ws.getD 4 "") = true) ∧ (0 ≤ x ∧ x ≤ 1000000) ∧ (1 ≤ w ∧ w ≤ 1000000) ∧ (1 ≤ d ∧ d ≤ 1000000) ∧ lieB (.str (ws.getD 5 "")) = true then some ⟨x, w, d, if ws.getD 4 "" = "-" then "" else ws.getD 4 "", ws.getD 5 ""⟩ else none
  | _, _, _ => none
  else none
def plcD (ws : List Str) : D := match placF ws with | none => .non | some p => plD p
structure PS where (b : Option Int) (m : Option (Int × Int)) (B : List Bed) (C : List Co)
def PS.nil : PS := ⟨none, none, [], []⟩
def mD : Option (Int × Int) → D | none => .non | some p => intsD [p.1, p.2]
def coT (c : Co) : T := .nd .tup [.fz (.int c.h), .ow .lst (c.ps.map plD)]
def cosT (C : List Co) : T := if C = [] then .ow .lst [] else .nd .lst (C.map coT)
abbrev plK : List Key := [.inr "bears", .inr "measures", .inr "beds", .inr "courses"]
def planT (s : PS) : T := .nd (.dK plK) [.fz (oD s.b), .fz (mD s.m), .ow .lst (s.B.map bedD), cosT s.C]
def lastW (ws : List Str) : Str := ws.getD (ws.length - 1) ""
def hdF (s : PS) (ws : List Str) : Option PS := match s.b with
  | none => match whF (lastW ws) with
    | some b => if ws.length = 2 ∧ ws.getD 0 "" = "bears" ∧ (1 ≤ b ∧ b ≤ 1000000000000000000000) then some { s with b := some b } else none
    | none => none
  | some _ => match allIn 1 1000000 ((ws.drop 1).map whF) with
    | some [l, w] => if ws.length = 3 ∧ ws.getD 0 "" = "bench" then some { s with m := some (l, w) } else none
    | _ => none
def addP (C : List Co) (p : Pl) : List Co := C.dropLast ++ [⟨(C.getLastD ⟨0, []⟩).h, (C.getLastD ⟨0, []⟩).ps ++ [p]⟩]
def rowF' (s : PS) (ws : List Str) : Option PS := match s.m with
  | none => hdF s ws
  | some _ => if ws.getD 0 "" = "bed" then match bdF ws with
      | some b => if s.C = [] ∧ s.B.length ≠ 6 then some { s with B := s.B ++ [b] } else none
      | none => none
    else if ws.getD 0 "" = "course" then match whF (lastW ws) with
      | some h => if ws.length = 2 ∧ (1 ≤ h ∧ h ≤ 1000000) ∧ s.B ≠ [] ∧ s.C.length ≠ 6 then some { s with C := s.C ++ [⟨h, []⟩] } else none
      | none => none
    else match placF ws with
      | some p => if s.C ≠ [] ∧ (s.C.getLastD ⟨0, []⟩).ps.length ≠ 24 then some { s with C := addP s.C p } else none
      | none => none
def foldR : PS → List Str → Nat → Nat ⊕ PS
  | s, [], _ => .inr s
  | s, r :: rs, k => match rowF' s (Txt.split r " ") with
    | none => .inl k
    | some s' => foldR s' rs (k + 1)
structure psOk (s : PS) : Prop where
  b : ∀ b, s.b = some b → 1 ≤ b ∧ b ≤ 1000000000000000000000
  m : ∀ l w, s.m = some (l, w) → M6 l ∧ M6 w
  mb : s.m ≠ none → s.b ≠ none
  bm : s.B ≠ [] → s.m ≠ none
  cb : s.C ≠ [] → s.B ≠ []
  wb : ∀ b, b ∈ s.B → wbed b
  lb : s.B.length ≤ 6
  wc : ∀ c, c ∈ s.C → wco c
  lc : s.C.length ≤ 6
def plRes (ca : Str → Addr) (x : Str) (E : Rz → List T → Prop) (R : Int → Int → List Bed → List Co → Int → Prop) : Prop :=
  match foldR PS.nil ((Txt.split x "\n").take ((Txt.split x "\n").length - 1)) 0 with
  | .inl k => E ⟨ca "NoPlan", ["at"], [.int (k : Nat)]⟩ []
  | .inr s => if s.C = [] ∨ (Txt.split x "\n").getD ((Txt.split x "\n").length - 1) "" ≠ "" then E ⟨ca "NoPlan", ["at"], [.int (((Txt.split x "\n").length - 1 : Nat) : Int)]⟩ [] else
    ∀ L W b, s.m = some (L, W) → s.b = some b → match duF L W s.B with
      | .bed k => E ⟨ca "NoBed", ["at"], [.int (k : Nat)]⟩ []
      | .many => E ⟨ca "TooMany", ["most"], [.int 24]⟩ []
      | .told => match duW s.C with
        | .place m => E ⟨ca "NoPlace", ["mark"], [mkD m]⟩ []
        | .many => E ⟨ca "TooMany", ["most"], [.int 24]⟩ []
        | .unb m => E ⟨ca "Unborne", ["mark"], [mkD m]⟩ []
        | .told => R L W s.B s.C b
def jntS : SemF := fun args Q E => ∃ x, args = [.fz (.str x)] ∧ shT x ∧ Q (.fz (jtD x)) []
def bdInS : SemF := fun args Q E => ∃ ws : List Str, args = [.fz (lsD ws)] ∧ wsOk ws ∧ Q (.fz (bdD ws)) []
def plInS : SemF := fun args Q E => ∃ ws : List Str, args = [.fz (lsD ws)] ∧ wsOk ws ∧ Q (.fz (plcD ws)) []
def headS : SemF := fun args Q E => ∃ (s : PS) (ws : List Str), args = [planT s, .fz (lsD ws)] ∧ wsOk ws ∧ s.m = none ∧ Q (.fz (.bl (hdF s ws).isSome)) [planT ((hdF s ws).getD s)]
def rowTS : SemF := fun args Q E => ∃ (s : PS) (ws : List Str), args = [planT s, .fz (lsD ws)] ∧ wsOk ws ∧ psOk s ∧ Q (.fz (.bl (rowF' s ws).isSome)) [planT ((rowF' s ws).getD s)]
def readPS (ca : Str → Addr) : SemF := fun args Q E => ∃ d, args = [.fz d] ∧ tyD d = true ∧ (∀ x, d = .str x → shT x) ∧ ((∀ x, d ≠ .str x) → E ⟨ca "Wrong", ["at"], [.int 0]⟩ []) ∧
  ∀ x, d = .str x → plRes ca x E fun L W B C b => benchOk L W B → wallOk C → Q (.fz (.nd .tup [benD ca L W B, walD ca C, .int b])) []
theorem six {ws : List Str} (h : ws.length = 6) : ∃ a b c d e f, ws = [a, b, c, d, e, f] := by
  match ws, h with
  | [a, b, c, d, e, f], _ => exact ⟨a, b, c, d, e, f, rfl⟩
theorem two {ws : List Str} (h : ws.length = 2) : ∃ a b, ws = [a, b] := by
  match ws, h with
  | [a, b], _ => exact ⟨a, b, rfl⟩
theorem three {ws : List Str} (h : ws.length = 3) : ∃ a b c, ws = [a, b, c] := by
  match ws, h with
  | [a, b, c], _ => exact ⟨a, b, c, rfl⟩
theorem lenB {ws : List Str} {n : Nat} : (!decide ((((ws.map D.str).length : Nat) : Int) = (n : Nat))) = !decide (ws.length = n) := by
  rw [List.length_map]
  congr 1
  exact decide_eq_decide.mpr ⟨fun h => by omega, fun h => by omega⟩
theorem bt_some {o : Option Int} {a b : Int} (h : btB (oD o) a b = true) : ∃ i, o = some i ∧ a ≤ i ∧ i ≤ b := by
  cases o with
  | none => cases h
  | some i => exact ⟨i, rfl, btI.mp h⟩
theorem jt_some {x : Str} (h : nonD (jtD x) = false) : ∃ xs, jtF x = some xs := by
  unfold jtD at h
  cases e : jtF x with
  | none => rw [e] at h; cases h
  | some xs => exact ⟨xs, rfl⟩
theorem jt_at {x : Str} {xs : List Int} (h : jtF x = some xs) : jtD x = intsD xs := by unfold jtD; rw [h]
theorem at_lastW {ws : List Str} (h : ws ≠ []) : L2.atI (ws.map D.str) (-1) = some (.str (lastW ws)) := by
  have hp := List.length_pos_iff.mpr h
  have e : ixN (ws.map D.str).length (-1) = some (ws.length - 1) := by
    unfold ixN
    rw [List.length_map]
    rw [if_neg (by omega), if_pos (by omega)]
    congr 1
    omega
  rw [atI_of e, List.getElem?_map]
  unfold lastW
  rw [getD_at (ws := ws) (k := ws.length - 1) (by omega)]
  rfl

theorem allIn_some {a b : Int} : ∀ {ls : List (Option Int)} {xs : List Int}, allIn a b ls = some xs → ls.map oD = xs.map D.int ∧ (∀ x, x ∈ xs → a ≤ x ∧ x ≤ b) ∧ xs.length = ls.length
  | [], xs, h => by cases h; simp
  | some i :: r, xs, h => by
    rw [allIn] at h
    split at h
    · rename_i hi
      cases e : allIn a b r with
      | none => rw [e] at h; cases h
      | some ys =>
        rw [e] at h
        cases h
        obtain ⟨h1, h2, h3⟩ := allIn_some e
        exact ⟨by rw [List.map_cons, h1, List.map_cons]; rfl, fun x hx => by rcases List.mem_cons.mp hx with rfl | z; exact hi; exact h2 x z, by simp [h3]⟩
    · cases h
  | none :: r, xs, h => by cases h
theorem allIn_bt {a b : Int} : ∀ {ls : List (Option Int)}, (ls.all fun o => btB (oD o) a b) = (allIn a b ls).isSome
  | [] => rfl
  | some i :: r => by
    rw [List.all_cons, allIn_bt, allIn]
    by_cases h : a ≤ i ∧ i ≤ b
    · have : btB (oD (some i)) a b = true := btI.mpr h
      rw [if_pos h, this, Bool.true_and, Option.isSome_map]
    · rw [if_neg h]
      have : btB (oD (some i)) a b = false := by
        cases q : btB (.int i) a b with
        | false => exact q
        | true => exact absurd (btI.mp q) h
      rw [this]; rfl
  | none :: r => by rw [List.all_cons, allIn]; rfl
theorem allIn_of {a b : Int} : ∀ {xs : List Int}, (∀ x, x ∈ xs → a ≤ x ∧ x ≤ b) → allIn a b (xs.map some) = some xs
  | [], _ => rfl
  | x :: xs, h => by
    rw [List.map_cons, allIn, if_pos (h x (by simp)), allIn_of fun y hy => h y (List.mem_cons_of_mem _ hy)]
    rfl
theorem wh_big {i : Int} (h : 0 ≤ i) (h2 : i < 10000000000000000000000) : whF (iS i) = some i := by
  unfold whF
  rw [iS_tl h]
  have hl := iS_len (k := 22) (by decide) h (by omega)
  rw [if_neg]
  · rw [TL.numL_val]
    congr 1
    omega
  · rintro (z | z | ⟨z, z2⟩ | z)
    · exact TL.numL_ne _ z
    · omega
    · have := numL_head _ z
      rw [TL.len_tl, iS_tl h] at z2
      omega
    · rw [digL_num] at z
      cases z
def jtS (xs : List Int) : Str := if xs = [] then "-" else Txt.join "," (xs.map iS)
def gS (g : Str) : Str := if g = "" then "-" else g
def bedWs (b : Bed) : List Str := ["bed", iS b.h, b.g, iS b.w, jtS b.xs, jtS b.ys]
def plWs (p : Pl) : List Str := ["place", iS p.x, iS p.w, iS p.d, gS p.g, p.l]
def rowS (ws : List Str) : Str := Txt.join " " ws
def coRs (c : Co) : List Str := rowS ["course", iS c.h] :: c.ps.map fun p => rowS (plWs p)
def planRs (L W : Int) (B : List Bed) (C : List Co) (b : Int) : List Str := [rowS ["bears", iS b], rowS ["bench", iS L, iS W]] ++ B.map (fun b => rowS (bedWs b)) ++ C.flatMap coRs
def endL (rs : List Str) : Str := Txt.join "" (rs.map fun r => r ++ "\n")
def planTx (L W : Int) (B : List Bed) (C : List Co) (b : Int) : Str := endL (planRs L W B C b)
def wdOk (x : Str) : Prop := ∀ c, c ∈ TL.tl x → c ≠ 32 ∧ c ≠ 10 ∧ c < 128
theorem wd_num {i : Int} (h : 0 ≤ i) : wdOk (iS i) := fun c hc => ⟨fun z => free_num h (.inl (by decide)) (z ▸ hc), fun z => free_num h (.inl (by decide)) (z ▸ hc), asc_num h c hc⟩
theorem abc_at : ∀ c, c ∈ abcL → 97 ≤ c ∧ c ≤ 122 := by decide +kernel
theorem wd_let {g : Str} (h : gLet g) : wdOk g := fun c hc => by have := abc_at c (h.2.2 c hc); omega
theorem wd_lit {x : Str} (h : (TL.tl x).all (fun c => decide (c ≠ 32) && (decide (c ≠ 10) && decide (c < 128))) = true) : wdOk x := fun c hc => by
  have := List.all_eq_true.mp h c hc
  simpa using this
theorem wd_jt {xs : List Int} (h : ∀ x, x ∈ xs → 0 ≤ x) : wdOk (jtS xs) := by
  unfold jtS
  split
  · exact wd_lit (by decide +kernel)
  · intro c hc
    rw [join_tl] at hc
    rcases joinL_mem _ hc with z | ⟨l, hl, hc⟩
    · have : c = 44 := by
        have z : c ∈ ([44] : List Nat) := z
        simpa using z
      omega
    · obtain ⟨s, hs, rfl⟩ := List.mem_map.mp hl
      obtain ⟨i, hi, rfl⟩ := List.mem_map.mp hs
      exact wd_num (h i hi) c hc
theorem gS_let {g : Str} (h : gEmp g) : wdOk (gS g) := by
  unfold gS
  split
  · exact wd_lit (by decide +kernel)
  · rcases h with h | h
    · exact wd_let h
    · contradiction
theorem wd_lie {l : Str} (h : Lie l) : wdOk l := by rcases h with rfl | rfl | rfl <;> exact wd_lit (by decide +kernel)
theorem row_split {ws : List Str} (hn : ws ≠ []) (h : ∀ x, x ∈ ws → wdOk x) : Txt.split (rowS ws) " " = ws :=
  TL.split_join (s := 32) (S := []) (by decide +kernel) (by decide +kernel) hn fun p hp z => (h p hp 32 z).1 rfl
theorem row_free {ws : List Str} (h : ∀ x, x ∈ ws → wdOk x) : ∀ c, c ∈ TL.tl (rowS ws) → c ≠ 10 ∧ c < 128 := fun c hc => by
  unfold rowS at hc
  rw [join_tl] at hc
  rcases joinL_mem _ hc with z | ⟨l, hl, hc⟩
  · have : c = 32 := by
      have z : c ∈ ([32] : List Nat) := z
      simpa using z
    omega
  · obtain ⟨s, hs, rfl⟩ := List.mem_map.mp hl
    exact (h s hs c hc).2
theorem jt_round {xs : List Int} (h : spots xs) : jtF (jtS xs) = some xs := by
  unfold jtF jtS
  by_cases e : xs = []
  · subst e; rfl
  · rw [if_neg e]
    have hs : Txt.split (Txt.join "," (xs.map iS)) "," = xs.map iS := split_num (s := 44) (by decide +kernel) (by decide +kernel) (by decide) e fun i hi => (h.2 i hi).1
    have hne : ¬ Txt.join "," (xs.map iS) = "-" := fun z => by
      have hc : (45 : Nat) ∈ TL.tl (Txt.join "," (xs.map iS)) := by rw [z]; decide +kernel
      rw [join_tl] at hc
      rcases joinL_mem _ hc with q | ⟨l, hl, hc⟩
      · have : (45 : Nat) = 44 := by
          have q : (45 : Nat) ∈ ([44] : List Nat) := q
          simpa using q
        omega
      · obtain ⟨s, hs, rfl⟩ := List.mem_map.mp hl
        obtain ⟨i, hi, rfl⟩ := List.mem_map.mp hs
        exact free_num (h.2 i hi).1 (.inl (by decide)) hc
    rw [if_neg hne, hs, List.length_map, if_neg (by have := h.1; omega), List.map_map]
    have : (whF ∘ iS) = fun i => whF (iS i) := rfl
    have e2 : xs.map (whF ∘ iS) = xs.map some := List.map_congr_left fun i hi => wh_iS (h.2 i hi).1 (h.2 i hi).2
    rw [e2]
    exact allIn_of h.2
theorem wd_bed {b : Bed} (h : wbed b) : ∀ x, x ∈ bedWs b → wdOk x := fun x hx => by
  obtain ⟨h1, h2, h3, h4, h5⟩ := h
  unfold M6 at h1
  simp only [bedWs, List.mem_cons, List.not_mem_nil, or_false] at hx
  rcases hx with rfl | rfl | rfl | rfl | rfl | rfl
  · exact wd_lit (by decide +kernel)
  · exact wd_num (by omega)
  · exact wd_let h2
  · exact wd_num (by omega)
  · exact wd_jt fun x hx => (h4.2 x hx).1
  · exact wd_jt fun x hx => (h5.2 x hx).1
theorem wd_pl {p : Pl} (h : wpl p) : ∀ x, x ∈ plWs p → wdOk x := fun x hx => by
  obtain ⟨h1, h2, h3, h4, h5⟩ := h
  unfold M6 at h2 h3
  simp only [plWs, List.mem_cons, List.not_mem_nil, or_false] at hx
  rcases hx with rfl | rfl | rfl | rfl | rfl | rfl
  · exact wd_lit (by decide +kernel)
  · exact wd_num (by omega)
  · exact wd_num (by omega)
  · exact wd_num (by omega)
  · exact gS_let h4
  · exact wd_lie h5
theorem bd_round {b : Bed} (h : wbed b) : bdF (bedWs b) = some b := by
  obtain ⟨h1, h2, h3, h4, h5⟩ := h
  unfold M6 at h1
  unfold bdF
  rw [if_pos ⟨rfl, rfl⟩]
  show (match whF (iS b.h), whF (iS b.w), jtF (jtS b.xs), jtF (jtS b.ys) with
    | some h, some w, some xs, some ys => if (1 ≤ h ∧ h ≤ 1000000) ∧ smB b.g = true ∧ (1 ≤ w ∧ w ≤ 1000) then some (⟨h, b.g, w, xs, ys⟩ : Bed) else none
    | _, _, _, _ => none) = _
  rw [wh_iS (by omega) (by omega), wh_iS (by omega) (by omega), jt_round h4, jt_round h5]
  show (if (1 ≤ b.h ∧ b.h ≤ 1000000) ∧ smB b.g = true ∧ (1 ≤ b.w ∧ b.w ≤ 1000) then some (⟨b.h, b.g, b.w, b.xs, b.ys⟩ : Bed) else none) = _
  rw [if_pos ⟨h1, smB_let.mpr h2, h3⟩]
theorem lie_B {l : Str} (h : Lie l) : lieB (.str l) = true := by rcases h with rfl | rfl | rfl <;> decide +kernel
theorem pl_round {p : Pl} (h : wpl p) : placF (plWs p) = some p := by
  obtain ⟨h1, h2, h3, h4, h5⟩ := h
  unfold M6 at h2 h3
  unfold placF
  rw [if_pos ⟨rfl, rfl⟩]
  show (match whF (iS p.x), whF (iS p.w), whF (iS p.d) with
    | some x, some w, some d => if (gS p.g = "-" ∨ smB (gS p.g) = true) ∧ (0 ≤ x ∧ x ≤ 1000000) ∧ (1 ≤ w ∧ w ≤ 1000000) ∧ (1 ≤ d ∧ d ≤ 1000000) ∧ lieB (.str p.l) = true then some (⟨x, w, d, if gS p.g = "-" then ("" : Str) else gS p.g, p.l⟩ : Pl) else none
    | _, _, _ => none) = _
  rw [wh_iS (by omega) (by omega), wh_iS (by omega) (by omega), wh_iS (by omega) (by omega)]
  have hg : (gS p.g = "-" ∨ smB (gS p.g) = true) ∧ (if gS p.g = "-" then ("" : Str) else gS p.g) = p.g := by
    unfold gS
    by_cases e : p.g = ""
    · rw [if_pos e]; exact ⟨.inl rfl, by rw [if_pos rfl, e]⟩
    · rw [if_neg e]
      rcases h4 with h4 | h4
      · refine ⟨.inr (smB_let.mpr h4), if_neg fun z => ?_⟩
        have := abc_at 45 (h4.2.2 45 (by rw [z]; decide +kernel))
        omega
      · exact absurd h4 e
  show (if (gS p.g = "-" ∨ smB (gS p.g) = true) ∧ (0 ≤ p.x ∧ p.x ≤ 1000000) ∧ (1 ≤ p.w ∧ p.w ≤ 1000000) ∧ (1 ≤ p.d ∧ p.d ≤ 1000000) ∧ lieB (.str p.l) = true then some (⟨p.x, p.w, p.d, if gS p.g = "-" then ("" : Str) else gS p.g, p.l⟩ : Pl) else none) = _
  rw [if_pos ⟨hg.1, h1, h2, h3, lie_B h5⟩, hg.2]
theorem foldR_app : ∀ {rs ts : List Str} {s s' : PS} {k : Nat}, foldR s rs k = .inr s' → foldR s (rs ++ ts) k = foldR s' ts (k + rs.length)
  | [], ts, s, s', k, h => by cases h; rfl
  | r :: rs, ts, s, s', k, h => by
    rw [foldR] at h
    rw [List.cons_append, foldR]
    cases e : rowF' s (Txt.split r " ") with
    | none => rw [e] at h; cases h
    | some s1 =>
      rw [e] at h
      have := foldR_app (ts := ts) (s := s1) (k := k + 1) h
      show foldR s1 (rs ++ ts) (k + 1) = _
      rw [this, List.length_cons]
      congr 1
      omega
theorem fold_beds {b l w : Int} : ∀ {B B0 : List Bed} {k : Nat}, (∀ b, b ∈ B → wbed b) → B0.length + B.length ≤ 6 → foldR ⟨some b, some (l, w), B0, []⟩ (B.map fun b => rowS (bedWs b)) k = .inr ⟨some b, some (l, w), B0 ++ B, []⟩
  | [], B0, k, _, _ => by simp [foldR]
  | x :: B, B0, k, h, hl => by
    rw [List.length_cons] at hl
    have e : rowF' ⟨some b, some (l, w), B0, []⟩ (Txt.split (rowS (bedWs x)) " ") = some ⟨some b, some (l, w), B0 ++ [x], []⟩ := by
      rw [row_split (by simp [bedWs]) (wd_bed (h x (by simp)))]
      unfold rowF'
      simp only
      rw [if_pos (show (bedWs x).getD 0 "" = "bed" from rfl), bd_round (h x (by simp))]
      simp only
      rw [if_pos ⟨trivial, by omega⟩]
    rw [List.map_cons, foldR, e]
    show foldR _ _ _ = _
    rw [fold_beds (fun y hy => h y (List.mem_cons_of_mem _ hy)) (by simp; omega), List.append_assoc]
    rfl
theorem fold_pls {b l w : Int} {B : List Bed} {C : List Co} {h : Int} : ∀ {ps qs : List Pl} {k : Nat}, (∀ p, p ∈ ps → wpl p) → qs.length + ps.length ≤ 24 → foldR ⟨some b, some (l, w), B, C ++ [⟨h, qs⟩]⟩ (ps.map fun p => rowS (plWs p)) k = .inr ⟨some b, some (l, w), B, C ++ [⟨h, qs ++ ps⟩]⟩
  | [], qs, k, _, _ => by simp [foldR]
  | p :: ps, qs, k, hp, hl => by
    rw [List.length_cons] at hl
    have e : rowF' ⟨some b, some (l, w), B, C ++ [⟨h, qs⟩]⟩ (Txt.split (rowS (plWs p)) " ") = some ⟨some b, some (l, w), B, C ++ [⟨h, qs ++ [p]⟩]⟩ := by
      rw [row_split (by simp [plWs]) (wd_pl (hp p (by simp)))]
      unfold rowF'
      simp only
      rw [if_neg (show ¬ (plWs p).getD 0 "" = "bed" from by show ¬ ("place" : Str) = "bed"; decide +kernel), if_neg (show ¬ (plWs p).getD 0 "" = "course" from by show ¬ ("place" : Str) = "course"; decide +kernel), pl_round (hp p (by simp))]
      simp only
      rw [if_pos ⟨by simp, by simp; omega⟩]
      simp [addP]
    rw [List.map_cons, foldR, e]
    show foldR _ _ _ = _
    rw [fold_pls (fun y hy => hp y (List.mem_cons_of_mem _ hy)) (by simp; omega), List.append_assoc]
    rfl
theorem fold_cos {b l w : Int} {B : List Bed} (hB : B ≠ []) : ∀ {C C0 : List Co} {k : Nat}, (∀ c, c ∈ C → wco c) → C0.length + C.length ≤ 6 → foldR ⟨some b, some (l, w), B, C0⟩ (C.flatMap coRs) k = .inr ⟨some b, some (l, w), B, C0 ++ C⟩
  | [], C0, k, _, _ => by simp [foldR]
  | c :: C, C0, k, h, hl => by
    obtain ⟨h1, h2, h3⟩ := h c (by simp)
    unfold M6 at h1
    rw [List.length_cons] at hl
    have e : rowF' ⟨some b, some (l, w), B, C0⟩ (Txt.split (rowS ["course", iS c.h]) " ") = some ⟨some b, some (l, w), B, C0 ++ [⟨c.h, []⟩]⟩ := by
      rw [row_split (by simp) (fun x hx => by
        simp only [List.mem_cons, List.not_mem_nil, or_false] at hx
        rcases hx with rfl | rfl
        · exact wd_lit (by decide +kernel)
        · exact wd_num (by omega))]
      unfold rowF'
      simp only
      rw [if_neg (show ¬ (["course", iS c.h] : List Str).getD 0 "" = "bed" from by show ¬ ("course" : Str) = "bed"; decide +kernel), if_pos (show (["course", iS c.h] : List Str).getD 0 "" = "course" from rfl)]
      have e1 : whF (lastW ["course", iS c.h]) = some c.h := wh_iS (by omega) (by omega)
      rw [e1]
      simp only
      rw [if_pos ⟨rfl, h1, hB, by omega⟩]
    have e2 : foldR ⟨some b, some (l, w), B, C0⟩ (coRs c) k = .inr ⟨some b, some (l, w), B, C0 ++ [c]⟩ := by
      unfold coRs
      rw [foldR, e]
      show foldR _ _ _ = _
      rw [fold_pls h2 (by simpa using h3)]
      rfl
    rw [List.flatMap_cons, foldR_app e2, fold_cos hB (fun y hy => h y (List.mem_cons_of_mem _ hy)) (by simp; omega), List.append_assoc]
    rfl
theorem fold_plan {L W : Int} {B : List Bed} {C : List Co} {b : Int} (hw : weak L W B) (hc : weakW C) (hb : 1 ≤ b ∧ b ≤ 1000000000000000000000) : foldR PS.nil (planRs L W B C b) 0 = .inr ⟨some b, some (L, W), B, C⟩ := by
  obtain ⟨h1, h2, h3, h4⟩ := hw
  unfold M6 at h1 h2
  have hB : B ≠ [] := fun e => by rw [e] at h3; simp at h3
  have e1 : rowF' PS.nil (Txt.split (rowS ["bears", iS b]) " ") = some ⟨some b, none, [], []⟩ := by
    rw [row_split (by simp) (fun x hx => by
      simp only [List.mem_cons, List.not_mem_nil, or_false] at hx
      rcases hx with rfl | rfl
      · exact wd_lit (by decide +kernel)
      · exact wd_num (by omega))]
    unfold rowF' PS.nil hdF
    simp only
    have e1 : whF (lastW ["bears", iS b]) = some b := wh_big (by omega) (by omega)
    rw [e1]
    simp only
    rw [if_pos ⟨rfl, rfl, hb⟩]
  have e2 : rowF' ⟨some b, none, [], []⟩ (Txt.split (rowS ["bench", iS L, iS W]) " ") = some ⟨some b, some (L, W), [], []⟩ := by
    rw [row_split (by simp) (fun x hx => by
      simp only [List.mem_cons, List.not_mem_nil, or_false] at hx
      rcases hx with rfl | rfl | rfl
      · exact wd_lit (by decide +kernel)
      · exact wd_num (by omega)
      · exact wd_num (by omega))]
    unfold rowF' hdF
    simp only
    have e1 : allIn 1 1000000 (((["bench", iS L, iS W] : List Str).drop 1).map whF) = some [L, W] := by
      show allIn 1 1000000 [whF (iS L), whF (iS W)] = _
      rw [wh_iS (by omega) (by omega), wh_iS (by omega) (by omega)]
      exact allIn_of (xs := [L, W]) fun x hx => by
        simp only [List.mem_cons, List.not_mem_nil, or_false] at hx
        rcases hx with rfl | rfl <;> assumption
    rw [e1]
    simp only
    rw [if_pos ⟨rfl, rfl⟩]
  have e3 : foldR PS.nil [rowS ["bears", iS b], rowS ["bench", iS L, iS W]] 0 = .inr ⟨some b, some (L, W), [], []⟩ := by
    rw [foldR, e1]
    show foldR _ _ _ = _
    rw [foldR, e2]
    rfl
  unfold planRs
  rw [List.append_assoc, foldR_app e3, foldR_app (fold_beds h4 (by simpa using h3.2))]
  exact fold_cos hB hc.2 (by simpa using hc.1.2)
theorem joinL_end : ∀ (ls : List (List Nat)) (c : Nat), TL.joinL [] (ls.map fun l => l ++ [c]) = TL.joinL [c] (ls ++ [[]])
  | [], c => rfl
  | [l], c => by simp [TL.joinL]
  | l :: m :: ls, c => by
    have ih := joinL_end (m :: ls) c
    rw [List.map_cons, List.cons_append]
    rw [List.map_cons] at ih
    rw [List.cons_append] at ih
    rw [List.map_cons, TL.joinL, ih, List.cons_append, TL.joinL]
    simp
theorem end_split {rs : List Str} (h : ∀ r, r ∈ rs → ∀ c, c ∈ TL.tl r → c ≠ 10) : Txt.split (endL rs) "\n" = rs ++ [("" : Str)] := by
  have e : endL rs = Txt.join "\n" (rs ++ [("" : Str)]) := by
    apply TL.ext_tl
    unfold endL
    rw [join_tl, join_tl, List.map_map, List.map_append]
    have : (TL.tl ∘ fun r : Str => r ++ "\n") = fun r => TL.tl r ++ [10] := by
      funext r
      show TL.tl (r ++ "\n") = _
      rw [TL.tl_append]; rfl
    rw [this]
    have e2 : rs.map (fun r => TL.tl r ++ [10]) = (rs.map TL.tl).map fun l => l ++ [10] := by rw [List.map_map]; rfl
    rw [e2]
    exact joinL_end _ 10
  rw [e]
  exact TL.split_join (s := 10) (S := []) (by decide +kernel) (by decide +kernel) (by simp) fun p hp z => by
    rcases List.mem_append.mp hp with q | q
    · exact h p q 10 z rfl
    · simp only [List.mem_singleton] at q
      subst q
      exact absurd (show (10 : Nat) ∈ ([] : List Nat) from z) (by simp)
theorem row_ok {L W : Int} {B : List Bed} {C : List Co} {b : Int} (hw : weak L W B) (hc : weakW C) (hb : 1 ≤ b ∧ b ≤ 1000000000000000000000) : ∀ r, r ∈ planRs L W B C b → ∃ ws, r = rowS ws ∧ ∀ x, x ∈ ws → wdOk x := fun r hr => by
  obtain ⟨h1, h2, h3, h4⟩ := hw
  unfold M6 at h1 h2
  simp only [planRs, List.mem_append, List.mem_cons, List.not_mem_nil, or_false, List.mem_map, List.mem_flatMap] at hr
  rcases hr with ((rfl | rfl) | ⟨x, hx, rfl⟩) | ⟨c, hcm, hr⟩
  · exact ⟨_, rfl, fun x hx => by
      simp only [List.mem_cons, List.not_mem_nil, or_false] at hx
      rcases hx with rfl | rfl
      · exact wd_lit (by decide +kernel)
      · exact wd_num (by omega)⟩
  · exact ⟨_, rfl, fun x hx => by
      simp only [List.mem_cons, List.not_mem_nil, or_false] at hx
      rcases hx with rfl | rfl | rfl
      · exact wd_lit (by decide +kernel)
      · exact wd_num (by omega)
      · exact wd_num (by omega)⟩
  · exact ⟨_, rfl, wd_bed (h4 x hx)⟩
  · obtain ⟨c1, c2, c3⟩ := hc.2 c hcm
    unfold M6 at c1
    rcases List.mem_cons.mp hr with rfl | q
    · exact ⟨_, rfl, fun x hx => by
        simp only [List.mem_cons, List.not_mem_nil, or_false] at hx
        rcases hx with rfl | rfl
        · exact wd_lit (by decide +kernel)
        · exact wd_num (by omega)⟩
    · obtain ⟨p, hp, rfl⟩ := List.mem_map.mp q
      exact ⟨_, rfl, wd_pl (c2 p hp)⟩
theorem plan_split {L W : Int} {B : List Bed} {C : List Co} {b : Int} (hw : weak L W B) (hc : weakW C) (hb : 1 ≤ b ∧ b ≤ 1000000000000000000000) : Txt.split (planTx L W B C b) "\n" = planRs L W B C b ++ [("" : Str)] := end_split fun r hr c hc' => by
  obtain ⟨ws, rfl, h⟩ := row_ok hw hc hb r hr
  exact (row_free h c hc').1
theorem jt_len {xs : List Int} (h : spots xs) : (jtS xs).length ≤ 200 := by
  unfold jtS
  split
  · decide +kernel
  · have := join_len (y := ",") (ws := xs.map iS) (k := 7) fun x hx => by
      obtain ⟨i, hi, rfl⟩ := List.mem_map.mp hx
      have := h.2 i hi
      exact iS_len (by decide) (by omega) (by omega)
    have e : ((",") : Str).length = 1 := rfl
    rw [List.length_map, e] at this
    have q : xs.length * (7 + 1) ≤ 23 * 8 := Nat.mul_le_mul h.1 (by decide)
    omega
theorem num_len {i : Int} (h : 0 ≤ i) (h2 : i ≤ 1000000) : (iS i).length ≤ 200 := by
  have := iS_len (k := 7) (by decide) h (by omega)
  omega
theorem let_len {g : Str} (h : gLet g) : g.length ≤ 200 := by have := h.2.1; omega
theorem gS_len {g : Str} (h : gEmp g) : (gS g).length ≤ 200 := by
  unfold gS
  split
  · decide +kernel
  · rcases h with h | h
    · exact let_len h
    · contradiction
theorem lie_len {l : Str} (h : Lie l) : l.length ≤ 200 := by rcases h with rfl | rfl | rfl <;> decide +kernel
theorem bed_len {b : Bed} (h : wbed b) : ∀ x, x ∈ bedWs b → x.length ≤ 200 := fun x hx => by
  obtain ⟨h1, h2, h3, h4, h5⟩ := h
  unfold M6 at h1
  simp only [bedWs, List.mem_cons, List.not_mem_nil, or_false] at hx
  rcases hx with rfl | rfl | rfl | rfl | rfl | rfl
  · decide +kernel
  · exact num_len (by omega) (by omega)
  · exact let_len h2
  · exact num_len (by omega) (by omega)
  · exact jt_len h4
  · exact jt_len h5
theorem pl_len {p : Pl} (h : wpl p) : ∀ x, x ∈ plWs p → x.length ≤ 200 := fun x hx => by
  obtain ⟨h1, h2, h3, h4, h5⟩ := h
  unfold M6 at h2 h3
  simp only [plWs, List.mem_cons, List.not_mem_nil, or_false] at hx
  rcases hx with rfl | rfl | rfl | rfl | rfl | rfl
  · decide +kernel
  · exact num_len (by omega) (by omega)
  · exact num_len (by omega) (by omega)
  · exact num_len (by omega) (by omega)
  · exact gS_len h4
  · exact lie_len h5
theorem row_len {ws : List Str} (hl : ws.length ≤ 6) (h : ∀ x, x ∈ ws → x.length ≤ 200) : (rowS ws).length ≤ 1206 := by
  have := join_len (y := " ") h
  have e : ((" ") : Str).length = 1 := rfl
  rw [e] at this
  have q : ws.length * (200 + 1) ≤ 6 * 201 := Nat.mul_le_mul hl (by decide)
  unfold rowS
  omega
theorem big_len {b : Int} (hb : 1 ≤ b ∧ b ≤ 1000000000000000000000) : (iS b).length ≤ 200 := by
  have := iS_len (i := b) (k := 22) (by decide) (by omega) (by omega)
  omega
theorem rows_len {L W : Int} {B : List Bed} {C : List Co} {b : Int} (hw : weak L W B) (hc : weakW C) (hb : 1 ≤ b ∧ b ≤ 1000000000000000000000) : ∀ r, r ∈ planRs L W B C b → r.length ≤ 1206 := fun r hr => by
  obtain ⟨h1, h2, h3, h4⟩ := hw
  unfold M6 at h1 h2
  simp only [planRs, List.mem_append, List.mem_cons, List.not_mem_nil, or_false, List.mem_map, List.mem_flatMap] at hr
  rcases hr with ((rfl | rfl) | ⟨x, hx, rfl⟩) | ⟨c, hcm, hr⟩
  · exact row_len (by simp) fun x hx => by
      simp only [List.mem_cons, List.not_mem_nil, or_false] at hx
      rcases hx with rfl | rfl
      · decide +kernel
      · exact big_len hb
  · exact row_len (by simp) fun x hx => by
      simp only [List.mem_cons, List.not_mem_nil, or_false] at hx
      rcases hx with rfl | rfl | rfl
      · decide +kernel
      · exact num_len (by omega) (by omega)
      · exact num_len (by omega) (by omega)
  · exact row_len (by simp [bedWs]) (bed_len (h4 x hx))
  · obtain ⟨c1, c2, c3⟩ := hc.2 c hcm
    unfold M6 at c1
    rcases List.mem_cons.mp hr with rfl | q
    · exact row_len (by simp) fun x hx => by
        simp only [List.mem_cons, List.not_mem_nil, or_false] at hx
        rcases hx with rfl | rfl
        · decide +kernel
        · exact num_len (by omega) (by omega)
    · obtain ⟨p, hp, rfl⟩ := List.mem_map.mp q
      exact row_len (by simp [plWs]) (pl_len (c2 p hp))
theorem coRs_len : ∀ {C : List Co}, (C.flatMap coRs).length = C.length + totF C
  | [] => rfl
  | c :: C => by
    rw [List.flatMap_cons, List.length_append, coRs_len]
    unfold totF coRs
    simp
    omega
theorem plan_rows {L W : Int} {B : List Bed} {C : List Co} {b : Int} : (planRs L W B C b).length = 2 + B.length + C.length + totF C := by
  unfold planRs
  rw [List.length_append, List.length_append, coRs_len, List.length_map]
  simp
  omega
theorem plan_len {L W : Int} {B : List Bed} {C : List Co} {b : Int} (hw : weak L W B) (hc : weakW C) (ht : totF C ≤ 24) (hb : 1 ≤ b ∧ b ≤ 1000000000000000000000) : (planTx L W B C b).length ≤ 45866 := by
  unfold planTx endL
  have := join_len (y := "") (ws := (planRs L W B C b).map fun r => r ++ "\n") (k := 1207) fun x hx => by
    obtain ⟨r, hr, rfl⟩ := List.mem_map.mp hx
    have := rows_len hw hc hb r hr
    rw [TL.len_tl, TL.tl_append, List.length_append, ← TL.len_tl]
    have : (TL.tl "\n").length = 1 := rfl
    omega
  rw [List.length_map, plan_rows] at this
  have e : (("") : Str).length = 0 := rfl
  rw [e] at this
  have h1 := hw.2.2.1.2
  have h2 := hc.1.2
  have q : (2 + B.length + C.length + totF C) * (1207 + 0) ≤ 38 * 1207 := Nat.mul_le_mul (by omega) (by decide)
  omega
theorem plan_asc {L W : Int} {B : List Bed} {C : List Co} {b : Int} (hw : weak L W B) (hc : weakW C) (hb : 1 ≤ b ∧ b ≤ 1000000000000000000000) : ∀ c, c ∈ TL.tl (planTx L W B C b) → c < 128 := asc_join (by decide +kernel) fun x hx c hc' => by
  obtain ⟨r, hr, rfl⟩ := List.mem_map.mp hx
  obtain ⟨ws, rfl, h⟩ := row_ok hw hc hb r hr
  rw [TL.tl_append] at hc'
  rcases List.mem_append.mp hc' with q | q
  · exact (row_free h c q).2
  · have q : c ∈ ([10] : List Nat) := q
    have : c = 10 := by simpa using q
    omega
theorem sml_plan {n : Nat} {L W : Int} {B : List Bed} {C : List Co} {b : Int} (hw : benchOk L W B) (hc : wallOk C) (hb : 1 ≤ b ∧ b ≤ 1000000000000000000000) : sml 45866 n (.str (planTx L W B C b)) := sml_strL (plan_len (ok_weak hw) (wall_weak hc) hc.2.2.1 hb) (plan_asc (ok_weak hw) (wall_weak hc) hb)
theorem sh_plan {L W : Int} {B : List Bed} {C : List Co} {b : Int} (hw : benchOk L W B) (hc : wallOk C) (hb : 1 ≤ b ∧ b ≤ 1000000000000000000000) : shT (planTx L W B C b) := Nat.le_trans (plan_len (ok_weak hw) (wall_weak hc) hc.2.2.1 hb) (by decide)
theorem plan_res {ca : Str → Addr} {E : Rz → List T → Prop} {R : Int → Int → List Bed → List Co → Int → Prop} {L W : Int} {B : List Bed} {C : List Co} {b : Int} (hw : benchOk L W B) (hc : wallOk C) (hb : 1 ≤ b ∧ b ≤ 1000000000000000000000) (h : R L W B C b) : plRes ca (planTx L W B C b) E R := by
  unfold plRes
  rw [plan_split (ok_weak hw) (wall_weak hc) hb]
  have e1 : (planRs L W B C b ++ [("" : Str)]).length - 1 = (planRs L W B C b).length := by simp
  rw [e1, List.take_left, fold_plan (ok_weak hw) (wall_weak hc) hb]
  simp only
  have e2 : (planRs L W B C b ++ [("" : Str)]).getD (planRs L W B C b).length "" = "" := by
    rw [List.getD_eq_getElem?_getD, List.getElem?_append_right (Nat.le_refl _)]
    simp
  have hC : C ≠ [] := fun e => by have := hc.1.1; rw [e] at this; simp at this
  rw [if_neg (by rw [e2]; simp [hC])]
  intro L' W' b' em eb
  cases em
  cases eb
  rw [ok_told hw, wall_told hc]
  exact h
theorem hd_ok {s s' : PS} {ws : List Str} (hs : psOk s) (hm : s.m = none) (h : hdF s ws = some s') : psOk s' := by
  obtain ⟨sb, sm, sB, sC⟩ := s
  obtain ⟨h1, h2, h3, h4, h5, h6, h7, h8, h9⟩ := hs
  have eB : sB = [] := by
    by_cases e : sB = []
    · exact e
    · exact absurd hm (h4 e)
  have eC : sC = [] := by
    by_cases e : sC = []
    · exact e
    · exact absurd eB (h5 e)
  have hm : sm = none := hm
  subst eB eC hm
  unfold hdF at h
  cases sb with
  | none =>
    simp only at h
    split at h
    · split at h
      · rename_i b _ hc
        cases h
        exact ⟨fun b' e => (by cases e; exact hc.2.2), fun l w e => (by cases e), fun z => absurd rfl z, fun z => absurd rfl z, fun z => absurd rfl z, fun _ z => (nomatch z), by simp, fun _ z => (nomatch z), by simp⟩
      · cases h
    · cases h
  | some b =>
    simp only at h
    split at h
    · rename_i l w e
      split at h
      · cases h
        obtain ⟨_, q, _⟩ := allIn_some e
        exact ⟨fun b' e => h1 b' e, fun l' w' e => (by cases e; exact ⟨q l (by simp), q w (by simp)⟩), fun _ z => (nomatch z), fun z => absurd rfl z, fun z => absurd rfl z, fun _ z => (nomatch z), by simp, fun _ z => (nomatch z), by simp⟩
      · cases h
    · cases h
theorem jt_spots {x : Str} {xs : List Int} (h : jtF x = some xs) : spots xs := by
  unfold jtF at h
  split at h
  · cases h; exact ⟨by simp, by simp⟩
  · split at h
    · cases h
    · rename_i hl
      obtain ⟨_, h2, h3⟩ := allIn_some h
      rw [List.length_map] at h3
      exact ⟨by omega, h2⟩
theorem bd_ok {ws : List Str} {b : Bed} (h : bdF ws = some b) : wbed b := by
  unfold bdF at h
  split at h
  · split at h
    · split at h
      · rename_i e1 e2 e3 e4 hc
        cases h
        exact ⟨hc.1, smB_let.mp hc.2.1, hc.2.2, jt_spots e3, jt_spots e4⟩
      · cases h
    · cases h
  · cases h
theorem lieB_ok {l : Str} (h : lieB (.str l) = true) : Lie l := by
  have h : lieL l = true := h
  unfold lieL at h
  unfold Lie
  simp at h
  exact h
theorem pl_ok {ws : List Str} {p : Pl} (h : placF ws = some p) : wpl p := by
  unfold placF at h
  split at h
  · split at h
    · split at h
      · rename_i e1 e2 e3 hc
        cases h
        refine ⟨hc.2.1, hc.2.2.1, hc.2.2.2.1, ?_, lieB_ok hc.2.2.2.2⟩
        split
        · exact .inr rfl
        · rename_i hn
          rcases hc.1 with z | z
          · exact absurd z hn
          · exact .inl (smB_let.mp z)
      · cases h
    · cases h
  · cases h
theorem addP_snoc {C : List Co} {p : Pl} (h : C ≠ []) : ∃ C0 c, C = C0 ++ [c] ∧ addP C p = C0 ++ [⟨c.h, c.ps ++ [p]⟩] ∧ C.getLastD ⟨0, []⟩ = c := by
  refine ⟨C.dropLast, C.getLast h, (List.dropLast_concat_getLast h).symm, ?_, ?_⟩
  · unfold addP
    rw [List.getLastD_eq_getLast?, List.getLast?_eq_some_getLast h]
    rfl
  · rw [List.getLastD_eq_getLast?, List.getLast?_eq_some_getLast h]
    rfl
theorem row_psok {s s' : PS} {ws : List Str} (hs : psOk s) (h : rowF' s ws = some s') : psOk s' := by
  unfold rowF' at h
  split at h
  · rename_i hm
    exact hd_ok hs hm h
  · rename_i m hm
    obtain ⟨h1, h2, h3, h4, h5, h6, h7, h8, h9⟩ := hs
    split at h
    · split at h
      · rename_i b hb
        split at h
        · rename_i hc
          cases h
          refine ⟨h1, h2, h3, fun _ z => (by rw [hm] at z; cases z), fun z => absurd hc.1 z, fun x hx => ?_, ?_, h8, h9⟩
          · rcases List.mem_append.mp hx with q | q
            · exact h6 x q
            · simp at q; subst q; exact bd_ok hb
          · have := hc.2
            simp; omega
        · cases h
      · cases h
    · split at h
      · split at h
        · rename_i hh _
          split at h
          · rename_i hc
            cases h
            refine ⟨h1, h2, h3, h4, fun _ => hc.2.2.1, h6, h7, fun x hx => ?_, ?_⟩
            · rcases List.mem_append.mp hx with q | q
              · exact h8 x q
              · simp at q; subst q; exact ⟨hc.2.1, by simp, by simp⟩
            · have := hc.2.2.2
              simp; omega
          · cases h
        · cases h
      · split at h
        · rename_i p hp
          split at h
          · rename_i hc
            cases h
            obtain ⟨C0, c, e1, e2, e3⟩ := addP_snoc (p := p) hc.1
            have hw := h8 c (by rw [e1]; simp)
            refine ⟨h1, h2, h3, h4, fun _ => h5 hc.1, h6, h7, fun x hx => ?_, ?_⟩
            · have hx : x ∈ addP s.C p := hx
              rw [e2] at hx
              rcases List.mem_append.mp hx with q | q
              · exact h8 x (by rw [e1]; exact List.mem_append_left _ q)
              · simp at q
                subst q
                refine ⟨hw.1, fun y hy => ?_, ?_⟩
                · rcases List.mem_append.mp hy with q | q
                  · exact hw.2.1 y q
                  · simp at q; subst q; exact pl_ok hp
                · have q1 := hw.2.2
                  have q2 := hc.2
                  rw [e3] at q2
                  simp; omega
            · show (addP s.C p).length ≤ 6
              rw [e2]
              rw [e1] at h9
              simpa using h9
          · cases h
        · cases h
theorem foldR_snoc {r : Str} {rs : List Str} {s s' : PS} {k : Nat} (h : foldR s rs k = .inr s') : foldR s (rs ++ [r]) k = match rowF' s' (Txt.split r " ") with | none => .inl (k + rs.length) | some s'' => .inr s'' := by
  rw [foldR_app h, foldR]
  cases rowF' s' (Txt.split r " ") <;> rfl
theorem foldR_bad {r : Str} {rs ts : List Str} {s s' : PS} {k : Nat} (h : foldR s rs k = .inr s') (hn : rowF' s' (Txt.split r " ") = none) : foldR s (rs ++ r :: ts) k = .inl (k + rs.length) := by
  rw [foldR_app h, foldR, hn]
theorem nil_ok : psOk PS.nil := ⟨fun _ e => (nomatch e), fun _ _ e => (nomatch e), fun z => absurd rfl z, fun z => absurd rfl z, fun z => absurd rfl z, fun _ z => (nomatch z), by simp [PS.nil], fun _ z => (nomatch z), by simp [PS.nil]⟩
theorem split_ws {r x : Str} (hz : shT x) (h : r ∈ Txt.split x "\n") : wsOk (Txt.split r " ") := by
  have hr : r.length ≤ x.length := split_part h
  refine ⟨split_ne, ?_, fun y hy => ?_⟩
  · have := split_len (x := r) (y := " ")
    unfold shT at hz
    omega
  · have := split_part hy
    unfold shT at hz ⊢
    omega
theorem coT_d {c : Co} : (coT c).d = coD c := by
  unfold coT
  simp only [T.d, Tsd]
theorem Tsd_cos : ∀ {C : List Co}, Tsd (C.map coT) = C.map coD
  | [] => rfl
  | c :: C => by rw [List.map_cons, Tsd, coT_d, Tsd_cos, List.map_cons]
theorem cosT_d {C : List Co} : (cosT C).d = cosD C := by
  unfold cosT
  split
  · rename_i e
    subst e
    rfl
  · rw [T.d, Tsd_cos]
theorem vw_rek {C : List Co} {a : Addr} : vw ((cosT C).rek (.lsA a)) = cosT C := by unfold cosT; split <;> rfl
theorem rek_rek {C : List Co} {a : Addr} : ((cosT C).rek (.lsA a)).rek .lst = cosT C := by unfold cosT; split <;> rfl
theorem root_rek {C : List Co} {a : Addr} : rootA a ((cosT C).rek (.lsA a)) := by unfold cosT; split <;> rfl
theorem isA_rek {C : List Co} {a : Addr} : isA ((cosT C).rek (.lsA a)) = true := by unfold cosT; split <;> rfl
theorem pl_cos' {C : List Co} (h : ∀ c, c ∈ C → wco c) (hl : C.length ≤ 6) : (cosD C).pl 64 = true := (sml_lst (n := 63) (m := 6) (f := coD) (fun c hc => sml_wco (n := 60) (h c hc)) hl).1
theorem eq_nilC {C : List Co} : eqD (cosD C) (.nd .lst []) = decide (C = []) := by
  cases C with
  | nil => rfl
  | cons c C => simp [cosD, eqD, eqDs]
theorem eq_nilB {B : List Bed} : eqD (bedsD B) (.nd .lst []) = decide (B = []) := by
  cases B with
  | nil => rfl
  | cons c C => simp [bedsD, eqD, eqDs]
abbrev trP (s : PS) (Bs : List D) (ct : T) : T := .nd (.dK plK) [.fz (oD s.b), .fz (mD s.m), .ow .lst Bs, ct]
theorem tr_sub {s : PS} {Bs : List D} {ct : T} : T.sub (trP s Bs ct) [3] = some ct := by simp only [T.sub, Tsub]
theorem tr_put {s : PS} {Bs : List D} {ct ct' : T} : T.put (trP s Bs ct) [3] ct' = trP s Bs ct' := by
  have := put_one (k := .dK plK) (ts := [.fz (oD s.b), .fz (mD s.m), .ow .lst Bs, ct]) (j := 3) (t := ct) (u := ct') rfl
  exact this
theorem tr_put2 {s : PS} {Bs Bs' : List D} {ct : T} : T.put (trP s Bs ct) [2] (.ow .lst Bs') = trP s Bs' ct := by
  have := put_one (k := .dK plK) (ts := [.fz (oD s.b), .fz (mD s.m), .ow .lst Bs, ct]) (j := 2) (t := .ow .lst Bs) (u := .ow .lst Bs') rfl
  exact this
theorem pl_beds' {B : List Bed} (h : ∀ b, b ∈ B → wbed b) (hl : B.length ≤ 6) : (bedsD B).pl 64 = true := (sml_wbeds (n := 61) h hl).1
theorem bdD_some {ws : List Str} (h : nonD (bdD ws) = false) : ∃ b, bdF ws = some b ∧ bdD ws = bedD b := by
  unfold bdD at h ⊢
  cases e : bdF ws with
  | none => rw [e] at h; cases h
  | some b => exact ⟨b, rfl, rfl⟩
theorem plD_some {ws : List Str} (h : nonD (plcD ws) = false) : ∃ b, placF ws = some b ∧ plcD ws = plD b := by
  unfold plcD at h ⊢
  cases e : placF ws with
  | none => rw [e] at h; cases h
  | some b => exact ⟨b, rfl, rfl⟩
theorem len_cos {C : List Co} {a : Addr} {Q : T → Prop} (q : Q (.fz (.int (C.length : Nat)))) : lenA (vw ((cosT C).rek (.lsA a))) Q := by
  rw [vw_rek]
  unfold cosT
  split
  · rename_i e
    subst e
    exact q
  · have h : Q (.fz (.int ((C.map coT).length : Nat))) := by rw [List.length_map]; exact q
    exact h
theorem len_own {ds : List D} {Q : T → Prop} (q : Q (.fz (.int (ds.length : Nat)))) : lenA (.ow .lst ds) Q := q
theorem rek_nd {C : List Co} {a : Addr} (h : C ≠ []) : (cosT C).rek (.lsA a) = .nd (.lsA a) (C.map coT) := by unfold cosT; rw [if_neg h]; rfl
theorem ix_last {α : Type} {l : List α} (h : l ≠ []) : ixN l.length (-1) = some (l.length - 1) := by
  have hp := List.length_pos_iff.mpr h
  unfold ixN
  rw [if_neg (by omega), if_pos (by omega)]
  congr 1
  omega
theorem put_last {s : PS} {Bs : List D} {C0 : List Co} {c : Co} {a : Addr} {p : Pl} : T.put (trP s Bs (.nd (.lsA a) ((C0 ++ [c]).map coT))) [3, C0.length, 1] (.ow .lst (c.ps.map plD ++ [plD p])) = trP s Bs (.nd (.lsA a) ((C0 ++ [(⟨c.h, c.ps ++ [p]⟩ : Co)]).map coT)) := by
  have e1 : ((C0 ++ [c]).map coT)[C0.length]? = some (coT c) := by simp
  show T.nd (.dK plK) (Tput _ 3 [C0.length, 1] _) = _
  rw [Tput_set (t := .nd (.lsA a) ((C0 ++ [c]).map coT)) rfl, put_cons, Tput_set e1]
  have e2 : T.put (coT c) [1] (.ow .lst (c.ps.map plD ++ [plD p])) = coT ⟨c.h, c.ps ++ [p]⟩ := by
    unfold coT
    rw [put_cons, Tput_set (t := .ow .lst (c.ps.map plD)) rfl, put_nil]
    simp
  rw [e2]
  have e3 : ((C0 ++ [c]).map coT).set C0.length (coT ⟨c.h, c.ps ++ [p]⟩) = (C0 ++ [(⟨c.h, c.ps ++ [p]⟩ : Co)]).map coT := by simp [List.set_append]
  rw [e3]
  rfl
theorem row_bears {b : Int} : (("bears " : Str) ++ iS b) = rowS ["bears", iS b] := by
  apply TL.ext_tl
  have e : TL.tl "bears " = TL.tl "bears" ++ TL.tl " " := by decide +kernel
  unfold rowS
  rw [join_tl]
  simp only [TL.tl_append, List.map_cons, List.map_nil, TL.joinL, e, List.append_assoc]
theorem row_bench {L W : Int} : (("bench " : Str) ++ iS L ++ (" " : Str) ++ iS W) = rowS ["bench", iS L, iS W] := by
  apply TL.ext_tl
  have e : TL.tl "bench " = TL.tl "bench" ++ TL.tl " " := by decide +kernel
  unfold rowS
  rw [join_tl]
  simp only [TL.tl_append, List.map_cons, List.map_nil, TL.joinL, e, List.append_assoc]
theorem row_bed {b : Bed} : (("bed " : Str) ++ iS b.h ++ (" " : Str) ++ b.g ++ (" " : Str) ++ iS b.w ++ (" " : Str) ++ (jtS b.xs ++ (" " : Str) ++ jtS b.ys)) = rowS (bedWs b) := by
  apply TL.ext_tl
  have e : TL.tl "bed " = TL.tl "bed" ++ TL.tl " " := by decide +kernel
  unfold rowS bedWs
  rw [join_tl]
  simp only [TL.tl_append, List.map_cons, List.map_nil, TL.joinL, e, List.append_assoc]
theorem row_course {h : Int} : (("course " : Str) ++ iS h) = rowS ["course", iS h] := by
  apply TL.ext_tl
  have e : TL.tl "course " = TL.tl "course" ++ TL.tl " " := by decide +kernel
  unfold rowS
  rw [join_tl]
  simp only [TL.tl_append, List.map_cons, List.map_nil, TL.joinL, e, List.append_assoc]
theorem row_place {p : Pl} : (("place " : Str) ++ (iS p.x ++ (" " : Str) ++ iS p.w ++ (" " : Str) ++ iS p.d) ++ (" " : Str) ++ gS p.g ++ (" " : Str) ++ p.l) = rowS (plWs p) := by
  apply TL.ext_tl
  have e : TL.tl "place " = TL.tl "place" ++ TL.tl " " := by decide +kernel
  unfold rowS plWs
  rw [join_tl]
  simp only [TL.tl_append, List.map_cons, List.map_nil, TL.joinL, e, List.append_assoc]
theorem app_len {x y : Str} : (x ++ y).length = x.length + y.length := by rw [TL.len_tl, TL.tl_append, List.length_append, ← TL.len_tl, ← TL.len_tl]
theorem szA {x y : Str} {m n : Nat} (hx : x.length ≤ m) (hy : y.length ≤ n) (h : m + n ≤ 100000) : x.length + y.length ≤ sizeLine := szN (by omega)
theorem lnA {x y : Str} {m n : Nat} (hx : x.length ≤ m) (hy : y.length ≤ n) : (x ++ y).length ≤ m + n := by rw [app_len]; omega
theorem iS_log2 {i : Int} (h : i.natAbs ≤ 1000000000000000000000) : i.natAbs.log2 < 1920 := by
  by_cases e : i.natAbs = 0
  · rw [e]; decide
  · have := (Nat.log2_lt e (k := 1920)).mpr (Nat.lt_of_le_of_lt h (by decide +kernel))
    exact this
theorem iS_200 {i : Int} (h : 0 ≤ i) (h2 : i ≤ 1000000000000000000000) : (iS i).length ≤ 200 := by
  have := iS_len (i := i) (k := 22) (by decide) h (by omega)
  omega
theorem l1 : (" " : Str).length ≤ 1 := Nat.le_refl _
def bedRs (L W : Int) (B : List Bed) (b : Int) : List Str := [rowS ["bears", iS b], rowS ["bench", iS L, iS W]] ++ B.map (fun b => rowS (bedWs b))
theorem bedRs_snoc {L W : Int} {B : List Bed} {b : Int} {j : Nat} {x : Bed} (h : B[j]? = some x) : bedRs L W (B.take (j + 1)) b = bedRs L W (B.take j) b ++ [rowS (bedWs x)] := by
  unfold bedRs
  rw [List.take_succ, h, Option.toList_some, List.map_append, List.append_assoc]
  rfl
theorem planRs_eq {L W : Int} {B : List Bed} {C : List Co} {b : Int} : planRs L W B C b = bedRs L W B b ++ C.flatMap coRs := rfl
theorem cos_snoc {C : List Co} {j : Nat} {c : Co} (h : C[j]? = some c) : (C.take (j + 1)).flatMap coRs = (C.take j).flatMap coRs ++ coRs c := by
  rw [List.take_succ, h, Option.toList_some, List.flatMap_append]
  simp
theorem bedRs_len {L W : Int} {B : List Bed} {b : Int} : (bedRs L W B b).length = 2 + B.length := by unfold bedRs; simp; omega
def pcAt (l : List Pc) (k : Nat) : D := match l[k]? with | some p => ppD p | none => .non
theorem range_pcs {l : List Pc} : (List.range l.length).map (fun k => pcAt l k) = l.map ppD := by
  apply List.ext_getElem
  · simp
  · intro i h1 h2
    have hi : i < l.length := by simpa using h1
    simp [pcAt, hi]

def shjS : SemF := fun args Q E => ∃ xs : List Int, args = [.fz (intsD xs)] ∧ spots xs ∧ Q (.fz (.str (jtS xs))) []
def shpS (ca : Str → Addr) : SemF := fun args Q E => ∃ (L W : Int) (B : List Bed) (C : List Co) (b : Int), args = [.fz (benD ca L W B), .fz (walD ca C), .fz (.int b)] ∧ benchOk L W B ∧ wallOk C ∧ (1 ≤ b ∧ b ≤ 1000000000000000000000) ∧ Q (.fz (.str (planTx L W B C b))) []
def lrowsS : SemF := fun args Q E => ∃ (L W : Int) (B : List Bed) (C : List Co) (b : Int), args = [.fz (.int L), .fz (.int W), .fz (bedsD B), .fz (cosD C), .fz (.int b)] ∧ benchOk L W B ∧ wallOk C ∧ (1 ≤ b ∧ b ≤ 1000000000000000000000) ∧ Q (.fz (lsD (planRs L W B C b))) []
def bTD (L W : Int) (B : List Bed) : D := .nd .lst ([.nd .tup [.int L, .int W, .int (topF B)], bedsD B, .int ((pcsF L W B 0).length : Nat)] ++ (pcsF L W B 0).map ppD)
def wTD (C : List Co) : D := .nd .lst ([cosD C, mksD (mksF C 1)] ++ (mksF C 1).map (shDw C))
def btoldS (ca : Str → Addr) : SemF := fun args Q E => ∃ (L W : Int) (B : List Bed), args = [.fz (benD ca L W B)] ∧ benchOk L W B ∧ Q (.fz (bTD L W B)) []
def wtoldS (ca : Str → Addr) : SemF := fun args Q E => ∃ C : List Co, args = [.fz (walD ca C)] ∧ wallOk C ∧ Q (.fz (wTD C)) []
def lreadS (ca : Str → Addr) : SemF := fun args Q E => ∃ (L W : Int) (B : List Bed) (C : List Co) (b : Int), args = [.fz (.str (planTx L W B C b)), .fz (benD ca L W B), .fz (walD ca C), .fz (.int b)] ∧ benchOk L W B ∧ wallOk C ∧ (1 ≤ b ∧ b ≤ 1000000000000000000000) ∧ Q (.fz (.bl true)) []
theorem al_bT {L W : Int} {B : List Bed} (h : benchOk L W B) : (bTD L W B).pl 64 = true ∧ shwD (bTD L W B) := by
  have hw := ok_weak h
  have h1 := h.1
  have h2 := h.2.1
  unfold M6 at h1 h2
  have ht0 := top_nonneg (B := B) fun c hc => (h.2.2.2.1 c hc).1.1
  have ht1 := h.2.2.2.2.1
  have hpl := pcs_len (L := L) (W := W) (B := B) (z := 0)
  have h6 := h.2.2.2.2.2
  have s1 : sml 600 63 (.nd .tup [.int L, .int W, .int (topF B)]) := sml_mono (sml_tup (n := 62) (.cons (sml_int (by omega)) (.cons (sml_int (by omega)) (.cons (sml_int (by omega)) .nil)))) (by decide)
  have s2 : sml 140 63 (.int ((pcsF L W B 0).length : Nat)) := sml_int (by omega)
  have s3 : sml 40680 63 (bedsD B) := sml_wbeds (n := 60) hw.2.2.2 hw.2.2.1.2
  have s4 : ∀ d, d ∈ (pcsF L W B 0).map ppD → sml 1000 63 d := fun d hd => by
    obtain ⟨p, hp, rfl⟩ := List.mem_map.mp hd
    exact sml_piece (n := 61) h hp
  have s5 := szDs_le (k := 1000) fun d hd => (s4 d hd).2.2
  have s6 : ((pcsF L W B 0).map ppD).length * (1000 + 1) ≤ 24 * 1001 := Nat.mul_le_mul (by rw [List.length_map]; omega) (by decide)
  have sA : ∀ d, d ∈ ([D.nd .tup [.int L, .int W, .int (topF B)], bedsD B, .int ((pcsF L W B 0).length : Nat)] ++ (pcsF L W B 0).map ppD) → sml 40680 63 d := fun d hd => by
    rcases List.mem_append.mp hd with q | q
    · simp only [List.mem_cons, List.not_mem_nil, or_false] at q
      rcases q with rfl | rfl | rfl
      · exact sml_mono s1 (by decide)
      · exact s3
      · exact sml_mono s2 (by decide)
    · exact sml_mono (s4 d q) (by decide)
  refine ⟨pl_lst fun d hd => (sA d hd).1, shw_of (shrts_all fun d hd => (sA d hd).2.1) ?_⟩
  have q1 := s1.2.2
  have q2 := s2.2.2
  have q3 := s3.2.2
  show szDs _ ≤ _
  rw [szDs_app]
  simp only [szDs]
  omega
theorem al_wT {C : List Co} (h : wallOk C) : (wTD C).pl 64 = true ∧ shwD (wTD C) := by
  have hw := wall_weak h
  have hml := mks_len (C := C) (k := 1)
  have h24 := h.2.2.1
  have sm : ∀ m, m ∈ mksF C 1 → m.1.natAbs ≤ 1000 ∧ m.2.natAbs ≤ 1000 := fun m hm => weak_small hw hm
  have s1 : sml _ 63 (mksD (mksF C 1)) := sml_mksL (n := 61) sm
  have s2 : sml _ 63 (cosD C) := sml_wcos (n := 59) hw
  have s2z : szD (cosD C) ≤ 13000 := by
    have := sz_cos hw.2
    have := hw.1.2
    have e : szD (cosD C) = szDs (C.map coD) := by rw [szD]
    omega
  have s4 : ∀ d, d ∈ (mksF C 1).map (shDw C) → sml 9000 63 d := fun d hd => by
    obtain ⟨m, hm, rfl⟩ := List.mem_map.mp hd
    obtain ⟨p, hp⟩ := Option.ne_none_iff_exists'.mp (mem_plAt hm)
    obtain ⟨i, j, c, hi, hj, hm1, hm2⟩ := plAt_ex (wall_bd h hm) hp
    have hcw := hw.2 c (List.mem_of_getElem? hi)
    obtain ⟨p1, p2, p3, p4, p5⟩ := hcw.2.1 p (List.mem_of_getElem? hj)
    have hch := hcw.1
    unfold M6 at p2 p3 hch
    have e : shDw C m = .nd .tup [needD C m p, mksD (bsF C m (m.1 - 1)), mksD (bsF C m (m.1 + 1))] := by unfold shDw; rw [hp]
    have en : needD C m p = .nd .tup [.int p.w, .int p.d, .int c.h, .str p.g, .str p.l] := by unfold needD; rw [show (m.1 - 1).toNat = i by omega, hi]
    have n1 : sml 500 62 (needD C m p) := by
      rw [en]
      exact sml_mono (sml_tup (n := 61) (.cons (sml_int (by omega)) (.cons (sml_int (by omega)) (.cons (sml_int (by omega)) (.cons (sml_empW p4) (.cons (sml_lieW p5) .nil)))))) (by decide)
    have hs := sm m hm
    have hbd := wall_bd h hm
    have n2 : sml _ 62 (mksD (bsF C m (m.1 - 1))) := sml_mksL (n := 60) fun x hx => bs_small hw hx (by have := hbd.1; omega)
    have n3 : sml _ 62 (mksD (bsF C m (m.1 + 1))) := sml_mksL (n := 60) fun x hx => bs_small hw hx (by have := hbd.1; omega)
    have l2 := bs_le (C := C) (m := m) (k := m.1 - 1)
    have l3 := bs_le (C := C) (m := m) (k := m.1 + 1)
    have l4 := two_le (C := C) (k := m.1)
    rw [e]
    refine sml_mono (sml_tup (n := 62) (.cons n1 (.cons n2 (.cons n3 .nil)))) ?_
    omega
  have s5 := szDs_le (k := 9000) fun d hd => (s4 d hd).2.2
  have s6 : ((mksF C 1).map (shDw C)).length * (9000 + 1) ≤ 24 * 9001 := Nat.mul_le_mul (by rw [List.length_map]; omega) (by decide)
  have sA : ∀ d, d ∈ ([cosD C, mksD (mksF C 1)] ++ (mksF C 1).map (shDw C)) → d.pl 63 = true ∧ shrt d = true := fun d hd => by
    rcases List.mem_append.mp hd with q | q
    · simp only [List.mem_cons, List.not_mem_nil, or_false] at q
      rcases q with rfl | rfl
      · exact ⟨s2.1, s2.2.1⟩
      · exact ⟨s1.1, s1.2.1⟩
    · exact ⟨(s4 d q).1, (s4 d q).2.1⟩
  refine ⟨pl_lst fun d hd => (sA d hd).1, shw_of (shrts_all fun d hd => (sA d hd).2) ?_⟩
  have q1 := s1.2.2
  show szDs _ ≤ _
  rw [szDs_app]
  simp only [szDs]
  omega

section
variable {P : Program} {w : World} {K : PySem.W.Frag} {mg : Str → Option Value} {base : Heap} {ca : Str → Addr}
def bagT (a b c : Int) (ns : List Int) : T := .ow .lst [.int a, .int b, .int c, .nd .lst (ns.map .int)]
theorem ok_take (Df : DefAt K mg "_law_take" s_take ["_law_bag_here", "_law_many"]) (B : Bt mg) : Callee P w K mg base 1 "_law_take" ["_law_bag_here", "_law_many"] [0] takeX := by
  refine callee_of Df sc_take (by decide) (by decide) fun f cdv A outer s H EX W hr hG tk hp => ?_
  refine ⟨_, (ss_cons (s_if (t_eq (hu65 hr) ((q_ixA (hu65 hr) (p_nm 0) (q_int).p)).p (q_int).p) (ss_cons (s_set 2 q_int sc_take.nd)
      (ss_cons (s_if (t_lt ((q_ixA (hu65 hr) (p_nm 0) (q_int).p)).p ((q_b1 c_lenB g_lenB (by rfl) B.len bt_len ((q_ixA (hu65 hr) (p_nm 0) (q_int).p)).p)).p) (ss_one (s_set 2 (q_ixA (hu65 hr) ((q_ixA (hu65 hr) (p_nm 0) (q_int).p)).p ((q_ixA (hu65 hr) (p_nm 0) (q_int).p)).p) sc_take.nd)) ss_nil).cut
      (ss_cons (s_augS 0 ip_add q_int q_int)
      (ss_cons (s_if (t_ge (p_nm 2) (q_int).p) (ss_one (s_store 0 (p_nm 2).val q_int)) ss_nil).cut
      (ss_one (s_store 0 (q_mod ((q_add ((q_add ((q_mul ((q_ixA (hu65 hr) (p_nm 0) (q_int).p)).p (q_int).p)).p ((q_mod (p_nm 2) (q_int).p)).p)).p ((q_mul (q_int).p ((q_ixA (hu65 hr) (p_nm 0) (q_int).p)).p)).p)).p (q_int).p) q_int)))))) ss_nil).cut
      (ss_cons (s_if (t_gt ((q_ixA (hu65 hr) (p_nm 0) (q_int).p)).p (q_int).p) (ss_cons (s_set 3 (q_mod ((q_ixA (hu65 hr) (p_nm 0) (q_int).p)).p (p_nm 1)) sc_take.nd)
      (ss_cons (s_store 0 (q_fdiv ((q_ixA (hu65 hr) (p_nm 0) (q_int).p)).p (p_nm 1)) q_int)
      (ss_one (s_ret (p_nm 3).val)))) ss_nil)
      (ss_cons (s_set 4 (q_mod ((q_mul ((q_add ((q_ixA (hu65 hr) (p_nm 0) (q_int).p)).p (q_int).p)).p (q_int).p)).p (q_int).p) sc_take.nd)
      (ss_cons (s_set 5 (q_mod ((q_mul ((q_mod ((q_mul (p_nm 4) (p_nm 4))).p (q_int).p)).p (q_int).p)).p (q_int).p) sc_take.nd)
      (ss_cons (s_if (t_gt (p_nm 1) (q_int).p) (ss_one (s_ret (q_mod ((q_add ((q_mul (p_nm 5) (q_int).p)).p (p_nm 4))).p (p_nm 1)))) ss_nil)
      (ss_one (s_ret (q_mod ((q_fdiv (p_nm 5) (q_int).p)).p (p_nm 1))))))))), fun args Q E hl h => ?_⟩
  clear hl hr hG tk hp W EX H s outer A cdv f Df B
  obtain ⟨t, n, rfl, ⟨a, b, c, ns, rfl, ha, hb, hb2, hc, hns⟩, hn, hn2, h⟩ := h
  walk_at "vs"
  refine .mk ⟨fun e => ∃ a b c : Int, ∃ ns x, e = [some (bagT a b c ns), some (.fz (.int n)), x, none, none, none] ∧ 0 ≤ a ∧ 0 ≤ b ∧ b < 2147483647 ∧ 0 ≤ c ∧ ∀ x, x ∈ ns → 0 ≤ x, ?_, ?_⟩
  · walk_at "vs"
    refine ⟨fun h1 => ?_, fun h1 => ?_⟩
    · refine .mk ⟨fun e => ∃ x : Int, e = [some (bagT a b c ns), some (.fz (.int n)), some (.fz (.int x)), none, none, none] ∧ 0 ≤ x, ?_, ?_⟩
      · walk_at "vs"
        refine ⟨fun h2 => ?_, fun h2 => ?_⟩
        · walk_at "vs"
          simp at h2
          obtain ⟨d, e, m⟩ := at_lt (ds := ns.map D.int) hc (by simpa using h2)
          obtain ⟨x, mx, rfl⟩ := List.mem_map.mp m
          exact ⟨_, e, x, rfl, hns x mx⟩
        · exact ⟨0, rfl, by omega⟩
      · rintro e ⟨x, rfl, hx⟩
        walk_at "vs"
        refine ⟨show 2 < 4 by decide, rfl, ?_⟩
        refine .mk ⟨fun e => ∃ a : Int, e = [some (bagT a b (c + 1) ns), some (.fz (.int n)), some (.fz (.int x)), none, none, none] ∧ 0 ≤ a, ?_, ?_⟩
        · refine ⟨fun h2 => ?_, fun h2 => ?_⟩
          · walk_at "vs"
            exact hx
          · exact ⟨a, rfl, ha⟩
        · rintro e ⟨a, rfl, ha⟩
          walk_at "vs"
          exact ⟨a, _, c + 1, ns, _, rfl, ha, Int.emod_nonneg _ (by decide), Int.emod_lt_of_pos _ (by decide), by omega, hns⟩
    · exact ⟨a, b, c, ns, _, rfl, ha, hb, hb2, hc, hns⟩
  · rintro e ⟨a, b, c, ns, x, rfl, ha, hb, hb2, hc, hns⟩
    walk_at "vs"
    refine ⟨fun h1 => ?_, fun h1 => ?_⟩
    · walk_at "vs"
      exact h _ _ (Int.emod_nonneg _ (by omega)) (Int.emod_lt_of_pos _ (by omega)) ⟨a / n, b, c, ns, rfl, Int.ediv_nonneg ha (by omega), hb, hb2, hc, hns⟩
    · walk_at "vs"
      refine ⟨fun h2 => ?_, fun h2 => ?_⟩
      · walk_at "vs"
        exact h _ _ (Int.emod_nonneg _ (by omega)) (Int.emod_lt_of_pos _ (by omega)) ⟨a, b, c, ns, rfl, ha, hb, hb2, hc, hns⟩
      · walk_at "vs"
        exact h _ _ (Int.emod_nonneg _ (by omega)) (Int.emod_lt_of_pos _ (by omega)) ⟨a, b, c, ns, rfl, ha, hb, hb2, hc, hns⟩
theorem ok_bag (Df : DefAt K mg "_law_bag" s_bag ["_law_script"]) (B : Bt mg) : Callee P w K mg base 1 "_law_bag" ["_law_script"] [] bagS := by
  refine callee_of Df sc_bag (by decide) (by decide) fun f cdv A outer s H EX W hr hG tk hp => ?_
  refine ⟨_, (ss_one (s_ret (q_lst (a_cons q_int (a_cons q_int (a_cons q_int (a_cons ((q_lc (own := [("_law_cell", 1)]) rfl sc_bag.nd (i_list ((q_slice (p_nm 0) o_none (o_some q_int))).fz) (blkOk_by (by rfl)) (fun _ _ _ _ _ => (g_name 1 sc_bag.nd)) (fun _ _ _ _ _ => ts_nil) (fun _ _ _ _ _ => (q_b1 call_abs g_abs (by rfl) B.abs bt_abs (p_nm 1))))).fz a_nil))))))), fun args Q E hl h => ?_⟩
  clear hl hr hG tk hp W EX H s outer A cdv f Df B
  obtain ⟨ns, rfl, hn, h⟩ := h
  refine ⟨?_, ?_⟩
  · exact Nat.le_trans hn (by decide)
  refine .mk ⟨fun j acc e => ∃ xs : List Int, acc = xs.map .int ∧ e = [some (.fz (.scr ns)), none] ∧ ∀ x, x ∈ xs → 0 ≤ x, ⟨[], rfl, rfl, by simp⟩, ?_, ?_⟩
  · rintro j d acc e hd ⟨xs, rfl, rfl, hx⟩
    obtain ⟨x, _, rfl⟩ := List.mem_map.mp (List.mem_of_getElem? hd)
    refine ⟨fun _ => ?_, fun z => nomatch z⟩
    exact ⟨xs ++ [if x < 0 then -x else x], by simp, rfl, fun y hy => by
      rcases List.mem_append.mp hy with q | q
      · exact hx y q
      · simp at q; subst q; split <;> omega⟩
  · rintro acc e ⟨xs, rfl, rfl, hx⟩
    exact h _ ⟨0, 1234567891, 0, xs, rfl, by decide, by decide, by decide, by decide, hx⟩
theorem ok_alike (Df : DefAt K mg "_law_alike" s_alike ["_law_found", "_law_due"]) (B : Bt mg) : Callee P w K mg base 1 "_law_alike" ["_law_found", "_law_due"] [] alikeS := by
  refine callee_of Df sc_alike (by decide) (by decide) fun f cdv A outer s H EX W hr hG tk hp => ?_
  refine ⟨_, (ss_one (s_ret (q_and (q_eq (hu65 hr) (p_nm 0) (p_nm 1)) (q_one (q_eq (hu65 hr) ((q_b1 (c_repr hG (hu66 hr)) g_repr (by rfl) B.repr bt_repr (p_nm 0))).p ((q_b1 (c_repr hG (hu66 hr)) g_repr (by rfl) B.repr bt_repr (p_nm 1))).p))))), fun args Q E hl h => ?_⟩
  clear hl hr hG tk hp W EX H s outer A cdv f Df B
  obtain ⟨d, rfl, hp, hs, h⟩ := h
  refine ⟨.inr ⟨hp, hp⟩, fun h1 => ?_, fun h1 => ?_⟩
  · refine ⟨hp, hs, hp, hs, .inl rfl, ?_⟩
    have e : eqD (.str d.py.shown) (.str d.py.shown) = true := by simp [eqD]
    show Q (.fz (.bl (eqD (.str d.py.shown) (.str d.py.shown)))) []
    rw [e]
    exact h
  · simp [T.d, eqD_self 64 d hp] at h1

theorem ok_is_whole (Df : DefAt K mg "is_whole" s_is_whole ["thing"]) (B : Bt mg) : Callee P w K mg base 1 "is_whole" ["thing"] [] wholeS := by
  refine callee_of Df sc_is_whole (by decide) (by decide) fun f cdv A outer s H EX W hr hG tk hp => ?_
  refine ⟨_, (ss_one (s_ret (q_and (q_isi ki_int (by rfl) B.isinstance (by rfl) B.int bt_int (p_nm 0)) (q_one (q_not (q_isi ki_bl (by rfl) B.isinstance (by rfl) B.bool bt_bool (p_nm 0))))))), fun args Q E hl h => ?_⟩
  clear hl hr hG tk hp W EX H s outer A cdv f Df B
  obtain ⟨d, rfl, ht, h⟩ := h
  walk_at "nf"
  cases e : iB d with
  | some i => cases iB_some e; exact ⟨true, rfl, fun _ => ⟨false, rfl, h⟩, fun z => nomatch z⟩
  | none =>
    rcases ki_none ht e with ⟨b, rfl⟩ | hk
    · exact ⟨true, rfl, fun _ => ⟨true, rfl, h⟩, fun z => nomatch z⟩
    · exact ⟨false, hk, fun z => (nomatch z), fun _ => by simp only [whB, e] at h; exact h⟩
theorem ok_is_between (Df : DefAt K mg "is_between" s_is_between ["thing", "least", "most"]) (C_is_whole : Callee P w K mg base 1 "is_whole" ["thing"] [] wholeS) : Callee P w K mg base 2 "is_between" ["thing", "least", "most"] [] betweenS := by
  refine callee_of Df sc_is_between (by decide) (by decide) fun f cdv A outer s H EX W hr hG tk hp => ?_
  refine ⟨_, (ss_one (s_ret (q_and (q_callC C_is_whole tk (hr.mono (by decide)) hG (by rfl) (a_cons (p_nm 0).val a_nil) []) (q_one (q_chain op_le op_le (p_nm 1) (p_nm 0) (p_nm 2)))))), fun args Q E hl h => ?_⟩
  clear hl hr hG tk hp W EX H s outer A cdv f Df C_is_whole
  obtain ⟨d, lo, hi, rfl, ht, h⟩ := h
  walk_at "nf"
  refine ⟨d, rfl, ht, ?_⟩
  cases e : iB d with
  | some i =>
    cases iB_some e
    refine ⟨fun _ => ⟨decide (i ≤ hi), fun _ => ⟨rfl, rfl⟩, ?_⟩, fun z => nomatch z⟩
    simp only [btB, iB, Bool.decide_and] at h
    exact h
  | none =>
    simp only [whB, btB, e] at h ⊢
    exact ⟨fun z => (nomatch z), fun _ => h⟩
theorem ok_are_between (Df : DefAt K mg "are_between" s_are_between ["things", "least", "most"]) (C_is_between : Callee P w K mg base 2 "is_between" ["thing", "least", "most"] [] betweenS) : Callee P w K mg base 3 "are_between" ["things", "least", "most"] [] areS := by
  refine callee_of Df sc_are_between (by decide) (by decide) fun f cdv A outer s H EX W hr hG tk hp => ?_
  refine ⟨_, (ss_cons (s_for hp rfl (i_tup (p_nm 0).val) (g_name 3 sc_are_between.nd) (ss_one (s_if (t_not (t_val (q_callC C_is_between tk (hr.mono (by decide)) hG (by rfl) (a_cons (p_nm 3).val (a_cons (p_nm 1).val (a_cons (p_nm 2).val a_nil))) []))) (ss_one (s_ret q_bl)) ss_nil)))
      (ss_one (s_ret q_bl))), fun args Q E hl h => ?_⟩
  clear hl hr hG tk hp W EX H s outer A cdv f Df C_is_between
  obtain ⟨ds, lo, hi, rfl, ht, h⟩ := h
  walk_at "nf"
  refine .fr [3] (fun j vs => vs.length = 1 ∧ ((ds.take j).all fun d => btB d lo hi) = true) ⟨[_], rfl, rfl, rfl⟩ ?_ ?_
  · rintro j d vs hd ⟨hl, hk⟩
    match vs, hl with
    | [x], _ =>
    walk_at "nf"
    have ht2 := List.all_eq_true.mp ht d (List.mem_of_getElem? hd)
    refine ⟨_, _, _, rfl, ht2, fun z => ?_, fun z => ?_⟩
    · have : (ds.all fun d => btB d lo hi) = false := by
        rw [List.all_eq_false]
        exact ⟨d, List.mem_of_getElem? hd, by simpa using z⟩
      rw [this] at h
      exact h
    · refine ⟨[_], rfl, rfl, ?_⟩
      rw [List.take_add_one, hd, List.all_append, hk]
      simpa using z
  · rintro vs ⟨hl, hk⟩
    match vs, hl with
    | [x], _ =>
    rw [List.take_of_length_le (Nat.le_refl _)] at hk
    rw [hk] at h
    exact h
theorem ok_is_measure (Df : DefAt K mg "is_measure" s_is_measure ["thing"]) (B : Bt mg) (C_is_between : Callee P w K mg base 2 "is_between" ["thing", "least", "most"] [] betweenS) : Callee P w K mg base 3 "is_measure" ["thing"] [] measureS := by
  refine callee_of Df sc_is_measure (by decide) (by decide) fun f cdv A outer s H EX W hr hG tk hp => ?_
  refine ⟨_, (ss_one (s_ret (q_callC C_is_between tk (hr.mono (by decide)) hG (by rfl) (a_cons (p_nm 0).val (a_cons q_int (a_cons (q_glob (n := 1000000) (by rfl) B.g_MOST_MEASURE) a_nil))) []))), fun args Q E hl h => ?_⟩
  clear hl hr hG tk hp W EX H s outer A cdv f Df B C_is_between
  obtain ⟨d, rfl, ht, h⟩ := h
  exact ⟨d, 1, 1000000, rfl, ht, h⟩
theorem ok_is_spot (Df : DefAt K mg "is_spot" s_is_spot ["thing"]) (B : Bt mg) (C_is_between : Callee P w K mg base 2 "is_between" ["thing", "least", "most"] [] betweenS) : Callee P w K mg base 3 "is_spot" ["thing"] [] spotS := by
  refine callee_of Df sc_is_spot (by decide) (by decide) fun f cdv A outer s H EX W hr hG tk hp => ?_
  refine ⟨_, (ss_one (s_ret (q_callC C_is_between tk (hr.mono (by decide)) hG (by rfl) (a_cons (p_nm 0).val (a_cons q_int (a_cons (q_glob (n := 1000000) (by rfl) B.g_MOST_MEASURE) a_nil))) []))), fun args Q E hl h => ?_⟩
  clear hl hr hG tk hp W EX H s outer A cdv f Df B C_is_between
  obtain ⟨d, rfl, ht, h⟩ := h
  exact ⟨d, 0, 1000000, rfl, ht, h⟩
theorem ok_is_grain (Df : DefAt K mg "is_grain" s_is_grain ["thing"]) (B : Bt mg) : Callee P w K mg base 1 "is_grain" ["thing"] [] grainX := by
  refine callee_of Df sc_is_grain (by decide) (by decide) fun f cdv A outer s H EX W hr hG tk hp => ?_
  refine ⟨_, (ss_cons (s_if ((w_orM (t_not (t_val (q_isi ki_str (by rfl) B.isinstance (by rfl) B.str bt_str (p_nm 0)))) (w_or1 (t_not (t_chain op_le op_le (q_int).p ((q_b1 c_lenB g_lenB (by rfl) B.len bt_len (p_nm 0))).p ((q_glob (n := 8) (by rfl) B.g_LONGEST_GRAIN)).p))))).t (ss_one (s_ret q_bl)) ss_nil)
      (ss_cons (s_for hp rfl (i_str (p_nm 0).val) (g_name 1 sc_is_grain.nd) (ss_one (s_if (t_niA (hu65 hr) (p_nm 1) ((q_globS (s := "abcdefghijklmnopqrstuvwxyz") (by rfl) B.g_LETTERS)).p) (ss_one (s_ret q_bl)) ss_nil)))
      (ss_one (s_ret q_bl)))), fun args Q E hl h => ?_⟩
  clear hl hr hG tk hp W EX H s outer A cdv f Df B
  obtain ⟨d, rfl, ht, hz, h⟩ := h
  walk_at "nf"
  by_cases hs : ∃ x, d = .str x
  · obtain ⟨x, rfl⟩ := hs
    have hz := hz x rfl
    have h : Q (.fz (.bl (smB x))) [] := h
    refine ⟨true, rfl, !(decide ((1 : Int) ≤ x.length) && decide ((x.length : Int) ≤ 8)), fun _ => ⟨hz, decide ((x.length : Int) ≤ 8), fun _ => ⟨rfl, rfl⟩, rfl, rfl⟩, fun z => ?_, fun z => ?_⟩
    · have e : smB x = false := by
        unfold smB
        have z2 : (decide ((1 : Int) ≤ x.length) && decide ((x.length : Int) ≤ 8)) = false := by revert z; cases (decide ((1 : Int) ≤ x.length) && decide ((x.length : Int) ≤ 8)) <;> simp
        rw [z2, Bool.and_false]
      rw [e] at h
      exact h
    have z2 : (decide ((1 : Int) ≤ x.length) && decide ((x.length : Int) ≤ 8)) = true := by revert z; cases (decide ((1 : Int) ≤ x.length) && decide ((x.length : Int) ≤ 8)) <;> simp
    walk_at "nf"
    refine ⟨hz, ?_⟩
    refine .over x.cps.toList (fun c => .str ⟨#[c]⟩) rfl [1] (fun j vs => ∃ y, vs = [y] ∧ ((x.cps.toList.take j).all fun c => decide (c ∈ abcL)) = true) ⟨[_], rfl, _, rfl, rfl⟩ ?_ ?_
    · rintro j c vs hj ⟨y, rfl, hk⟩
      refine ⟨c, rfl, fun z => ?_, fun z => ?_⟩
      · have e : smB x = false := by
          have : (x.cps.toList.all fun c => decide (c ∈ abcL)) = false := by
            rw [List.all_eq_false]
            exact ⟨c, List.mem_of_getElem? hj, fun q => by
              have q2 : decide (c ∈ abcL) = true := q
              have z2 : (!decide (c ∈ abcL)) = true := z
              rw [q2] at z2; cases z2⟩
          unfold smB
          rw [this]; rfl
        rw [e] at h
        exact h
      · exact ⟨[_], rfl, _, rfl, by
          rw [List.take_add_one, hj, List.all_append, hk]
          have z2 : (!decide (c ∈ abcL)) = false := z
          cases q : decide (c ∈ abcL)
          · rw [q] at z2; cases z2
          · simp only [Option.toList_some, List.all_cons, List.all_nil, q]; rfl⟩
    · rintro vs ⟨y, rfl, hk⟩
      rw [List.take_length] at hk
      have e : smB x = true := by unfold smB; rw [hk, z2]; rfl
      rw [e] at h
      exact h
  · have hk := ks_none ht fun x e => hs ⟨x, e⟩
    have hf : grB d = false := by cases d <;> first | rfl | exact absurd ⟨_, rfl⟩ hs
    rw [hf] at h
    exact ⟨false, hk, true, fun z => (nomatch z), fun _ => h, fun z => nomatch z⟩

theorem gLet_of {g : Str} (h : (decide (1 ≤ g.length) && (decide (g.length ≤ 8) && g.cps.toList.all fun c => decide (c ∈ abcL))) = true) : gLet g := by
  simp only [Bool.and_eq_true, decide_eq_true_eq, List.all_eq_true] at h
  exact h
theorem joinL_flat : ∀ ls : List (List Nat), TL.joinL [] ls = ls.flatten
  | [] => rfl
  | [p] => by simp [TL.joinL]
  | p :: q :: r => by
    have := joinL_flat (q :: r)
    simp only [TL.joinL, List.flatten_cons, List.nil_append] at this ⊢
    rw [this]
theorem flat_ones : ∀ {ys : List Str}, (∀ y, y ∈ ys → ∃ c, y = ⟨#[c]⟩ ∧ c ∈ abcL) → (ys.map TL.tl).flatten.length = ys.length ∧ ∀ c, c ∈ (ys.map TL.tl).flatten → c ∈ abcL
  | [], _ => by simp
  | y :: ys, h => by
    obtain ⟨a, b⟩ := flat_ones (ys := ys) fun z hz => h z (List.mem_cons_of_mem _ hz)
    obtain ⟨c, rfl, hc⟩ := h y (by simp)
    have e : TL.tl ⟨#[c]⟩ = [c] := rfl
    refine ⟨by rw [List.map_cons, List.flatten_cons, List.length_append, a, e]; simp; omega, fun d hd => ?_⟩
    rw [List.map_cons, List.flatten_cons, e] at hd
    rcases List.mem_append.mp hd with q | q
    · simp at q; subst q; exact hc
    · exact b d q
theorem gLet_join {ys : List Str} (h : ∀ y, y ∈ ys → ∃ c, y = ⟨#[c]⟩ ∧ c ∈ abcL) (h1 : 1 ≤ ys.length) (h2 : ys.length ≤ 8) : gLet (Txt.join "" ys) := by
  have e : (Txt.join "" ys).cps.toList = TL.joinL [] (ys.map TL.tl) := by
    have := (congrArg TL.tl (TL.join_eq "" ys)).trans (TL.tl_join "" ys)
    exact this
  rw [joinL_flat] at e
  obtain ⟨a, b⟩ := flat_ones h
  have l : (Txt.join "" ys).length = ys.length := by
    have : (Txt.join "" ys).length = (Txt.join "" ys).cps.toList.length := rfl
    rw [this, e, a]
  exact ⟨by rw [l]; exact h1, by rw [l]; exact h2, by rw [e]; exact b⟩
theorem ok_grains (Df : DefAt K mg "_law_grains" s_grains ["_law_bag_here"]) (B : Bt mg) (C_take : Callee P w K mg base 1 "_law_take" ["_law_bag_here", "_law_many"] [0] takeX) : Callee P w K mg base 2 "_law_grains" ["_law_bag_here"] [0] grainsS := by
  refine callee_of Df sc_grains (by decide) (by decide) fun f cdv A outer s H EX W hr hG tk hp => ?_
  refine ⟨_, (ss_cons (s_set 1 q_str sc_grains.nd)
      (ss_cons (s_set 2 ((q_lst (a_cons q_str (a_cons q_str (a_cons q_str (a_cons q_str (a_cons q_str (a_cons q_str a_nil)))))))).fz sc_grains.nd)
      (ss_cons (s_set 3 (q_lst a_nil) sc_grains.nd)
      (ss_cons (s_for hp rfl (i_rng (by rfl) B.range (q_ixA (hu65 hr) ((q_lst (a_cons q_int (a_cons (q_add (q_int).p ((q_callC C_take tk (hr.mono (by decide)) hG (by rfl) (a_own 0 (a_cons q_int a_nil)) [0])).p) a_nil)))).p ((q_callC C_take tk (hr.mono (by decide)) hG (by rfl) (a_own 0 (a_cons q_int a_nil)) [0])).p)) (g_name 4 sc_grains.nd) (ss_cons (s_set 5 (q_callC C_take tk (hr.mono (by decide)) hG (by rfl) (a_own 0 (a_cons q_int a_nil)) [0]) sc_grains.nd)
      (ss_cons (s_set 6 (q_ixA (hu65 hr) (p_nm 2) ((q_callC C_take tk (hr.mono (by decide)) hG (by rfl) (a_own 0 (a_cons q_int a_nil)) [0])).p) sc_grains.nd)
      (ss_cons (s_if (t_gt (p_nm 5) (q_int).p) (ss_one (s_set 6 (q_join q_str ((q_lc (own := [("_law_j", 7)]) rfl sc_grains.nd (i_rng (by rfl) B.range (q_ixA (hu65 hr) ((q_lst (a_cons q_int (a_cons q_int (a_cons (q_add (q_int).p ((q_callC C_take tk (hr.mono (by decide)) hG (by rfl) (a_own 0 (a_cons q_int a_nil)) [0])).p) a_nil))))).p (p_nm 5))) (blkOk_by (by rfl)) (fun _ _ _ _ _ => (g_name 7 sc_grains.nd)) (fun _ _ _ _ _ => ts_nil) (fun _ _ _ _ _ => (q_ixA (hu65 hr) (p_nm 1) ((q_callC C_take takes0 (hr.mono (by decide)) hG (by rfl) (a_own 0 (a_cons q_int a_nil)) [0])).p)))).p) sc_grains.nd)) ss_nil).cut
      (ss_one (s_if (t_niA (hu65 hr) (p_nm 6) (p_nm 3)) (ss_one (s_expr (q_append 3 (a_cons (p_nm 6).val a_nil)))) ss_nil))))))
      (ss_one (s_ret (q_fzn 3))))))), fun args Q E hl h => ?_⟩
  clear hl hr hG tk hp W EX H s outer A cdv f Df B C_take
  obtain ⟨t, rfl, hb, h⟩ := h
  walk_at "vs"
  rename_i v1 b1 p1 q1 hb1 v2 b2 p2 q2 hb2
  refine at_all (C := fun d => ∃ i : Int, d = .int i ∧ 1 ≤ i ∧ i ≤ 3) p2 q2 (by simp; omega) ?_
  rintro _ ⟨i, rfl, i1, i2⟩
  refine ⟨show i ≤ (16777216 : Int) by omega, show -(2 ^ 62 : Int) ≤ i by omega, ?_⟩
  refine .mk ⟨fun j e => ∃ b gs x4 x5 x6 x7, e = [some b, some (.fz (.str "abcdefghijklmnopqrstuvwxyz")), some (.fz (.nd .lst [.str "along", .str "a", .str "ab", .str "either", .str "none", .str "bed"])), some (.ow .lst (gs.map .str)), x4, x5, x6, x7] ∧ IsBag b ∧ gs.length ≤ j ∧ (0 < j → 1 ≤ gs.length) ∧ ∀ g, g ∈ gs → gLet g, ⟨_, [], _, _, _, _, rfl, hb2, by simp, by simp, by simp⟩, ?_, ?_⟩
  · rintro j d e hd ⟨b, gs, x4, x5, x6, x7, rfl, hb, g1, g2, g3⟩
    obtain ⟨hj, rfl⟩ := rngD_get hd
    walk_at "vs"
    rename_i v3 b3 p3 q3 hb3 v4 b4 p4 q4 hb4
    refine at_all (C := fun d => ∃ x : Str, d = .str x ∧ gLet x) p4 q4 (by
      intro d hd
      simp only [List.mem_cons, List.not_mem_nil, or_false] at hd
      rcases hd with rfl | rfl | rfl | rfl | rfl | rfl <;> exact ⟨_, rfl, gLet_of (by decide +kernel)⟩) ?_
    rintro _ ⟨x, rfl, hx⟩
    refine .mk ⟨fun e => ∃ b x x7, e = [some b, some (.fz (.str "abcdefghijklmnopqrstuvwxyz")), some (.fz (.nd .lst [.str "along", .str "a", .str "ab", .str "either", .str "none", .str "bed"])), some (.ow .lst (gs.map .str)), some (.fz (.int (0 + (j : Int)))), some (.fz (.int v3)), some (.fz (.str x)), x7] ∧ IsBag b ∧ gLet x, ?_, ?_⟩
    · refine ⟨fun h1 => ?_, fun h1 => ⟨_, _, _, rfl, hb4, hx⟩⟩
      have h1 : (0 : Int) < v3 := by simpa using h1
      walk_at "vs"
      rename_i v5 b5 p5 q5 hb5
      have hm : ∃ m : Int, atI [D.int 0, D.int 1, D.int (1 + v5)] v3 = some (.int m) ∧ 1 ≤ m ∧ m ≤ 8 := by
        have q3 : v3 < 3 := by simpa using q3
        obtain rfl | rfl : v3 = 1 ∨ v3 = 2 := by omega
        · exact ⟨1, at_int (by decide) rfl, by omega, by omega⟩
        · exact ⟨1 + v5, at_int (by decide) rfl, by omega, by omega⟩
      obtain ⟨m, hm, m1, m2⟩ := hm
      refine ⟨_, hm, ?_⟩
      refine ⟨show m ≤ (16777216 : Int) by omega, show -(2 ^ 62 : Int) ≤ m by omega, ?_⟩
      refine .mk ⟨fun k acc e => ∃ b, ∃ ys : List Str, acc = ys.map .str ∧ e = [some b, some (.fz (.str "abcdefghijklmnopqrstuvwxyz")), some (.fz (.nd .lst [.str "along", .str "a", .str "ab", .str "either", .str "none", .str "bed"])), some (.ow .lst (gs.map .str)), some (.fz (.int (0 + (j : Int)))), some (.fz (.int v3)), some (.fz (.str x)), x7] ∧ IsBag b ∧ (ys.map (·.length)).sum ≤ k ∧ ys.length = k ∧ ∀ y, y ∈ ys → ∃ c, y = ⟨#[c]⟩ ∧ c ∈ abcL, ⟨_, [], rfl, rfl, hb5, by simp, by simp, by simp⟩, ?_, ?_⟩
      · rintro k d acc e hd ⟨b, ys, rfl, rfl, hb, z1, z2, z3⟩
        refine ⟨fun _ => ?_, fun z => nomatch z⟩
        walk_at "vs"
        rename_i v6 b6 p6 q6 hb6
        refine ⟨by decide, at_all (C := fun c => c ∈ abcL) p6 q6 (fun c hc => hc) fun c hc => ?_⟩
        exact ⟨b6, ys ++ [⟨#[c]⟩], by simp, rfl, hb6, by simp only [List.map_append, List.sum_append, List.map_cons, List.map_nil, List.sum_cons, List.sum_nil]; have : (Str.length ⟨#[c]⟩) = 1 := rfl; omega, by simp; omega, fun y hy => by
          rcases List.mem_append.mp hy with q | q
          · exact z3 y q
          · simp at q; exact ⟨c, q, hc⟩⟩
      · rintro acc e ⟨b, ys, rfl, rfl, hb, z1, z2, z3⟩
        rw [rngD_len] at z1 z2
        refine ⟨ys, rfl, ?_, ?_⟩
        · have : ("" : Str).length = 0 := rfl
          rw [this]; omega
        exact ⟨_, _, _, rfl, hb, gLet_join z3 (by omega) (by omega)⟩
    · rintro e ⟨b, x, x7, rfl, hb, hx⟩
      refine ⟨.inl (by simp [flD, T.d]), fun h1 => ?_, fun h1 => ?_⟩
      · refine ⟨rfl, ?_, ?_⟩
        · rw [List.length_map]; exact Nat.lt_of_le_of_lt (show gs.length ≤ 3 by omega) (by decide)
        exact ⟨b, gs ++ [x], _, _, _, _, by rw [List.map_append]; rfl, hb, by simp; omega, by simp, fun g hg => by
          rcases List.mem_append.mp hg with q | q
          · exact g3 g q
          · simp at q; subst q; exact hx⟩
      · refine ⟨b, gs, _, _, _, _, rfl, hb, by omega, fun _ => ?_, g3⟩
        rcases Nat.eq_zero_or_pos gs.length with z | z
        · rw [List.eq_nil_of_length_eq_zero z] at h1
          simp at h1
        · exact z
  · rintro e ⟨b, gs, x4, x5, x6, x7, rfl, hb, g1, g2, g3⟩
    rw [rngD_len] at g1 g2
    exact h gs b g3 (by omega) (by omega) hb

theorem ok_stretches_of (Df : DefAt K mg "stretches_of" s_stretches_of ["joints", "end"]) (B : Bt mg) : Callee P w K mg base 1 "stretches_of" ["joints", "end"] [] stretchS := by
  refine callee_of Df sc_stretches_of (by decide) (by decide) fun f cdv A outer s H EX W hr hG tk hp => ?_
  refine ⟨_, (ss_cons (s_set 2 ((q_add ((q_add ((q_lst (a_cons q_int a_nil))).p (p_nm 0))).p ((q_lst (a_cons (p_nm 1).val a_nil))).p)).fz sc_stretches_of.nd)
      (ss_one (s_ret ((q_lc (own := [("k", 3)]) rfl sc_stretches_of.nd (i_rng (by rfl) B.range (q_add ((q_b1 c_lenB g_lenB (by rfl) B.len bt_len (p_nm 0))).p (q_int).p)) (blkOk_by (by rfl)) (fun _ _ _ _ _ => (g_name 3 sc_stretches_of.nd)) (fun _ _ _ _ _ => ts_nil) (fun _ _ _ _ _ => (q_tup (a_cons (q_ixA (hu65 hr) (p_nm 2) (p_nm 3)) (a_cons (q_sub ((q_ixA (hu65 hr) (p_nm 2) ((q_add (p_nm 3) (q_int).p)).p)).p ((q_ixA (hu65 hr) (p_nm 2) (p_nm 3))).p) a_nil)))))).fz))), fun args Q E hl h => ?_⟩
  clear hl hr hG tk hp W EX H s outer A cdv f Df B
  obtain ⟨xs, e, rfl, hl, h⟩ := h
  walk_at "nf"
  have hE : (edF xs e).length = xs.length + 2 := by unfold edF; simp
  refine ⟨by simp; exact Nat.le_trans (show 1 + xs.length ≤ 24 by omega) (by decide), ?_⟩
  refine ⟨by simp; exact Nat.le_trans (show xs.length + 1 + 1 ≤ 25 by omega) (by decide), ?_⟩
  walk_at "nf"
  refine ⟨by rw [List.length_map]; exact Int.le_trans (show ((xs.length : Nat) : Int) + 1 ≤ 24 by omega) (by decide), by omega, ?_⟩
  refine .each (List.range (xs.length + 1)) (fun k => .int (k : Nat)) (by rw [List.length_map]; unfold rngD; simp) (fun k => prD ((edF xs e).getD k 0, (edF xs e).getD (k + 1) 0 - (edF xs e).getD k 0)) (fun j k hj => ⟨fun _ => ?_, fun z => nomatch z⟩) ?_
  · have hk := List.mem_range.mp (List.mem_of_getElem? hj)
    have g : ∀ m : Nat, m < xs.length + 2 → (([D.int 0] ++ xs.map D.int ++ [D.int e]) : List D)[m]? = some (.int ((edF xs e).getD m 0)) := fun m hm => by
      rw [← ed_map, List.getElem?_map, List.getD_eq_getElem?_getD, List.getElem?_eq_getElem (by omega)]; rfl
    refine ⟨.int ((edF xs e).getD k 0), at_of (g k (by omega)), .int ((edF xs e).getD (k + 1) 0), at_int (by omega) (by rw [show ((k : Int) + 1).toNat = k + 1 by omega]; exact g (k + 1) (by omega)), .int ((edF xs e).getD k 0), at_of (g k (by omega)), all_one hj, rfl⟩
  have e2 : (List.range (xs.length + 1)).map (fun k => prD ((edF xs e).getD k 0, (edF xs e).getD (k + 1) 0 - (edF xs e).getD k 0)) = (stF xs e).map prD := by unfold stF; rw [List.map_map]; rfl
  rw [e2]
  exact h
theorem ok_pieces_of (Df : DefAt K mg "pieces_of" s_pieces_of ["length", "width", "bed", "z"]) (C_stretches_of : Callee P w K mg base 1 "stretches_of" ["joints", "end"] [] stretchS) : Callee P w K mg base 2 "pieces_of" ["length", "width", "bed", "z"] [] piecesS := by
  refine callee_of Df sc_pieces_of (by decide) (by decide) fun f cdv A outer s H EX W hr hG tk hp => ?_
  refine ⟨_, (ss_cons (s_set 4 (q_lst a_nil) sc_pieces_of.nd)
      (ss_cons (s_for hp rfl (i_list (q_callC C_stretches_of tk (hr.mono (by decide)) hG (by rfl) (a_cons (q_ixA (hu65 hr) (p_nm 2) (q_int).p) (a_cons (p_nm 0).val a_nil)) [])) (g_tup (n := 2) rfl (gs_cons (g_name 5 sc_pieces_of.nd) (gs_cons (g_name 6 sc_pieces_of.nd) gs_nil))) (ss_one (s_for hp rfl (i_list (q_callC C_stretches_of tk (hr.mono (by decide)) hG (by rfl) (a_cons (q_ixA (hu65 hr) (p_nm 2) (q_int).p) (a_cons (p_nm 1).val a_nil)) [])) (g_tup (n := 2) rfl (gs_cons (g_name 7 sc_pieces_of.nd) (gs_cons (g_name 8 sc_pieces_of.nd) gs_nil))) (ss_one (s_expr (q_append 4 (a_cons (q_tup (a_cons (q_tup (a_cons (p_nm 5).val (a_cons (p_nm 7).val (a_cons (p_nm 3).val (a_cons (p_nm 6).val (a_cons (p_nm 8).val (a_cons (q_ixA (hu65 hr) (p_nm 2) (q_int).p) a_nil))))))) (a_cons (q_ixA (hu65 hr) (p_nm 2) (q_int).p) (a_cons (q_ixA (hu65 hr) (p_nm 2) (q_int).p) a_nil)))) a_nil)))))))
      (ss_one (s_ret (q_fzn 4))))), fun args Q E hl h => ?_⟩
  clear hl hr hG tk hp W EX H s outer A cdv f Df C_stretches_of
  obtain ⟨L, W, b, z, rfl, hx, hy, h⟩ := h
  walk_at "nf"
  refine ⟨_, at_int (by decide) rfl, b.xs, L, rfl, hx, ?_⟩
  refine .over (stF b.xs L) prD rfl [4, 5, 6, 7, 8] (fun j vs => ∃ x y u v, vs = [some (.ow .lst ((((stF b.xs L).take j).flatMap fun p => (stF b.ys W).map fun q => (⟨p.1, q.1, z, p.2, q.2, b.h, b.g, b.w⟩ : Pc)).map ppD)), x, y, u, v]) ⟨[_, _, _, _, _], rfl, _, _, _, _, rfl⟩ ?_ ?_
  · rintro j p vs hj ⟨x, y, u, v, rfl⟩
    have hjl := (List.getElem?_eq_some_iff.mp hj).1
    rw [st_len] at hjl
    refine ⟨rfl, ?_⟩
    walk_at "nf"
    refine ⟨_, at_int (by decide) rfl, b.ys, W, rfl, hy, ?_⟩
    obtain ⟨pre, hpre⟩ : ∃ pre, pre = ((stF b.xs L).take j).flatMap fun p => (stF b.ys W).map fun q => (⟨p.1, q.1, z, p.2, q.2, b.h, b.g, b.w⟩ : Pc) := ⟨_, rfl⟩
    rw [← hpre]
    refine .over (stF b.ys W) prD rfl [4, 7, 8] (fun k vs => ∃ u v, vs = [some (.ow .lst ((pre ++ ((stF b.ys W).take k).map fun q => (⟨p.1, q.1, z, p.2, q.2, b.h, b.g, b.w⟩ : Pc)).map ppD)), u, v]) ⟨[_, _, _], rfl, u, v, by simp⟩ ?_ ?_
    · rintro k q vs hk ⟨u, v, rfl⟩
      have hkl := (List.getElem?_eq_some_iff.mp hk).1
      rw [st_len] at hkl
      have hpl : pre.length ≤ 600 := by
        rw [hpre, fl_len, List.length_take, st_len, Nat.min_eq_left (by omega)]
        exact Nat.le_trans (Nat.mul_le_mul (show j ≤ 24 by omega) (show b.ys.length + 1 ≤ 24 by omega)) (by decide)
      refine ⟨rfl, ?_⟩
      walk_at "nf"
      refine ⟨rfl, _, at_int (by decide) rfl, _, at_int (by decide) rfl, _, at_int (by decide) rfl, ?_, ?_⟩
      · rw [List.length_map, List.length_append, List.length_map, List.length_take]
        exact Nat.lt_of_le_of_lt (show _ ≤ 700 by omega) (by decide)
      exact ⟨[_, _, _], rfl, _, _, by rw [List.take_succ, hk, Option.toList_some, List.map_append (l₁ := List.take k (stF b.ys W)), ← List.append_assoc, List.map_append (l₂ := List.map _ [q])]; exact rfl⟩
    · rintro vs ⟨u, v, rfl⟩
      rw [List.take_length]
      exact ⟨[_, _, _, _, _], rfl, _, _, _, _, by rw [List.take_succ, hj, Option.toList_some, List.flatMap_append, List.flatMap_singleton, ← hpre]⟩
  · rintro vs ⟨x, y, u, v, rfl⟩
    rw [List.take_length]
    exact h
theorem ok_Bench_size (Df : DefM K (ca "Bench") "size" "Bench.size" s_Bench_size ["self"]) (KC_Bench : Cls K (ca "Bench")) (KN_Bench : ∀ x, x ∈ (["kept_beds", "kept_pieces", "long_and_wide", "top"] : List Str) → NoAttr K (ca "Bench") x) : CalleeM P w K mg base 1 (ca "Bench") "size" ["self"] [] (sizeS ca) := by
  refine calleeM_of Df sc_Bench_size (by decide) (by decide) fun f cdv A outer s H EX W hr hG tk hp => ?_
  refine ⟨_, (ss_one (s_ret (q_tup (a_cons (q_ixA (hu65 hr) ((q_fld KC_Bench (KN_Bench _ (by simp)) (p_nm 0))).p (q_int).p) (a_cons (q_ixA (hu65 hr) ((q_fld KC_Bench (KN_Bench _ (by simp)) (p_nm 0))).p (q_int).p) (a_cons ((q_fld KC_Bench (KN_Bench _ (by simp)) (p_nm 0))).fz a_nil)))))), fun args Q E hl h => ?_⟩
  clear hl hr hG tk hp W EX H s outer A cdv f Df KC_Bench KN_Bench
  obtain ⟨L, W, B, rfl, h⟩ := h
  walk_at "nf"
  refine ⟨rfl, _, rfl, _, at_int (by decide) rfl, rfl, _, rfl, _, at_int (by decide) rfl, rfl, _, rfl, ?_⟩
  exact h
theorem ok_Bench_many (Df : DefM K (ca "Bench") "many" "Bench.many" s_Bench_many ["self"]) (B : Bt mg) (KC_Bench : Cls K (ca "Bench")) (KN_Bench : ∀ x, x ∈ (["kept_beds", "kept_pieces", "long_and_wide", "top"] : List Str) → NoAttr K (ca "Bench") x) : CalleeM P w K mg base 1 (ca "Bench") "many" ["self"] [] (manyS ca) := by
  refine calleeM_of Df sc_Bench_many (by decide) (by decide) fun f cdv A outer s H EX W hr hG tk hp => ?_
  refine ⟨_, (ss_one (s_ret (q_b1 c_lenB g_lenB (by rfl) B.len bt_len ((q_fld KC_Bench (KN_Bench _ (by simp)) (p_nm 0))).p))), fun args Q E hl h => ?_⟩
  clear hl hr hG tk hp W EX H s outer A cdv f Df B KC_Bench KN_Bench
  obtain ⟨L, W, B, rfl, h⟩ := h
  walk_at "nf"
  refine ⟨rfl, _, rfl, ?_⟩
  rw [← List.length_map (f := ppD)] at h
  exact h
theorem ok_like_bed (Df : DefAt K mg "like_bed" s_like_bed ["bed"]) (B : Bt mg) : Callee P w K mg base 1 "like_bed" ["bed"] [] likeS := by
  refine callee_of Df sc_like_bed (by decide) (by decide) fun f cdv A outer s H EX W hr hG tk hp => ?_
  refine ⟨_, (ss_one (s_ret (q_tup (a_cons (q_ixA (hu65 hr) (p_nm 0) (q_int).p) (a_cons (q_ixA (hu65 hr) (p_nm 0) (q_int).p) (a_cons (q_ixA (hu65 hr) (p_nm 0) (q_int).p) (a_cons ((q_ty1 call_list_of g_list (by rfl) B.list bt_list ((q_ixA (hu65 hr) (p_nm 0) (q_int).p)).p)).fz (a_cons ((q_ty1 call_list_of g_list (by rfl) B.list bt_list ((q_ixA (hu65 hr) (p_nm 0) (q_int).p)).p)).fz a_nil)))))))), fun args Q E hl h => ?_⟩
  clear hl hr hG tk hp W EX H s outer A cdv f Df B
  obtain ⟨b, rfl, h⟩ := h
  walk_at "nf"
  refine ⟨_, at_int (by decide) rfl, _, at_int (by decide) rfl, _, at_int (by decide) rfl, _, at_int (by decide) rfl, _, at_int (by decide) rfl, ?_⟩
  exact h
theorem ok_Bench_beds (Df : DefM K (ca "Bench") "beds" "Bench.beds" s_Bench_beds ["self"]) (KC_Bench : Cls K (ca "Bench")) (KN_Bench : ∀ x, x ∈ (["kept_beds", "kept_pieces", "long_and_wide", "top"] : List Str) → NoAttr K (ca "Bench") x) (C_like_bed : Callee P w K mg base 1 "like_bed" ["bed"] [] likeS) : CalleeM P w K mg base 2 (ca "Bench") "beds" ["self"] [] (bedsS ca) := by
  refine calleeM_of Df sc_Bench_beds (by decide) (by decide) fun f cdv A outer s H EX W hr hG tk hp => ?_
  refine ⟨_, (ss_one (s_ret ((q_lc (own := [("bed", 1)]) rfl sc_Bench_beds.nd (i_list ((q_fld KC_Bench (KN_Bench _ (by simp)) (p_nm 0))).fz) (blkOk_by (by rfl)) (fun _ _ _ _ _ => (g_name 1 sc_Bench_beds.nd)) (fun _ _ _ _ _ => ts_nil) (fun _ _ _ _ _ => (q_callC C_like_bed takes0 (hr.mono (by decide)) hG (by rfl) (a_cons (p_nm 1).val a_nil) [])))).fz)), fun args Q E hl h => ?_⟩
  clear hl hr hG tk hp W EX H s outer A cdv f Df KC_Bench KN_Bench C_like_bed
  obtain ⟨L, W, B, rfl, h⟩ := h
  walk_at "nf"
  refine ⟨rfl, _, rfl, ?_⟩
  refine .each B bedD rfl bedD (fun j a hj => ⟨fun _ => ⟨a, rfl, all_one hj, rfl⟩, fun z => nomatch z⟩) ?_
  exact h
theorem ok_measure (Df : DefAt K mg "_law_measure" s_measure ["_law_bag_here"]) (C_take : Callee P w K mg base 1 "_law_take" ["_law_bag_here", "_law_many"] [0] takeX) : Callee P w K mg base 2 "_law_measure" ["_law_bag_here"] [0] measS := by
  refine callee_of Df sc_measure (by decide) (by decide) fun f cdv A outer s H EX W hr hG tk hp => ?_
  refine ⟨_, (ss_one (s_ret (q_ixA (hu65 hr) ((q_lst (a_cons (q_add (q_int).p ((q_callC C_take tk (hr.mono (by decide)) hG (by rfl) (a_own 0 (a_cons q_int a_nil)) [0])).p) (a_cons q_int (a_cons (q_add (q_int).p ((q_callC C_take tk (hr.mono (by decide)) hG (by rfl) (a_own 0 (a_cons q_int a_nil)) [0])).p) (a_cons (q_add (q_int).p ((q_callC C_take tk (hr.mono (by decide)) hG (by rfl) (a_own 0 (a_cons q_int a_nil)) [0])).p) a_nil)))))).p ((q_callC C_take tk (hr.mono (by decide)) hG (by rfl) (a_own 0 (a_cons q_int a_nil)) [0])).p))), fun args Q E hl h => ?_⟩
  clear hl hr hG tk hp W EX H s outer A cdv f Df C_take
  obtain ⟨t, rfl, hb, h⟩ := h
  walk_at "nf"
  refine ⟨_, _, rfl, hb, by decide, by decide, fun a t1 a0 a1 hb1 => ?_⟩
  walk_at "nf"
  refine ⟨_, _, rfl, hb1, by decide, by decide, fun b t2 b0 b1 hb2 => ?_⟩
  walk_at "nf"
  refine ⟨_, _, rfl, hb2, by decide, by decide, fun c t3 c0 c1 hb3 => ?_⟩
  walk_at "nf"
  refine ⟨_, _, rfl, hb3, by decide, by decide, fun d t4 d0 d1 hb4 => ?_⟩
  refine at_all (C := fun d => ∃ i : Int, d = .int i ∧ M6 i) d0 d1 (by simp [M6]; omega) ?_
  rintro _ ⟨i, rfl, hi⟩
  exact h i t4 hi hb4
theorem ok_rising (Df : DefAt K mg "_law_rising" s_rising ["_law_bag_here", "_law_count", "_law_end"]) (B : Bt mg) (C_take : Callee P w K mg base 1 "_law_take" ["_law_bag_here", "_law_many"] [0] takeX) : Callee P w K mg base 2 "_law_rising" ["_law_bag_here", "_law_count", "_law_end"] [0] risingS := by
  refine callee_of Df sc_rising (by decide) (by decide) fun f cdv A outer s H EX W hr hG tk hp => ?_
  refine ⟨_, (ss_cons (s_set 3 (q_lst a_nil) sc_rising.nd)
      (ss_cons (s_set 4 q_int sc_rising.nd)
      (ss_cons (s_set 5 (q_bl_ (call_min2 rfl) g_min2 (by rfl) B.min bt_min (a_cons (p_nm 1).val (a_cons (q_sub (p_nm 2) (q_int).p) a_nil))) sc_rising.nd)
      (ss_cons (s_for hp rfl (i_rng (by rfl) B.range (p_nm 5).val) (g_name 6 sc_rising.nd) (ss_cons (s_set 7 (q_sub ((q_sub (p_nm 2) ((q_sub (p_nm 5) (p_nm 6))).p)).p (p_nm 4)) sc_rising.nd)
      (ss_cons (s_set 8 (q_ixA (hu65 hr) ((q_lst (a_cons q_int (a_cons (q_bl_ (call_min2 rfl) g_min2 (by rfl) B.min bt_min (a_cons (p_nm 7).val (a_cons q_int a_nil))) (a_cons (p_nm 7).val (a_cons (q_add (q_int).p ((q_fdiv ((q_sub (p_nm 7) (q_int).p)).p ((q_sub (p_nm 5) (p_nm 6))).p)).p) a_nil)))))).p ((q_callC C_take tk (hr.mono (by decide)) hG (by rfl) (a_own 0 (a_cons q_int a_nil)) [0])).p) sc_rising.nd)
      (ss_cons (s_set 4 (q_add ((q_add (p_nm 4) (q_int).p)).p ((q_callC C_take tk (hr.mono (by decide)) hG (by rfl) (a_own 0 (a_cons (p_nm 8).val a_nil)) [0])).p) sc_rising.nd)
      (ss_one (s_expr (q_append 3 (a_cons (p_nm 4).val a_nil))))))))
      (ss_one (s_ret (q_fzn 3))))))), fun args Q E hl h => ?_⟩
  clear hl hr hG tk hp W EX H s outer A cdv f Df B C_take
  obtain ⟨t, n, e, rfl, hb, n0, n1, he, h⟩ := h
  unfold M6 at he
  walk_at "nf"
  obtain ⟨m, hm⟩ : ∃ m : Int, m = min n (e - 1) := ⟨_, rfl⟩
  have hm2 : 0 ≤ m ∧ m ≤ n ∧ m ≤ e - 1 := by omega
  refine ⟨Int.le_trans (show min n (e - 1) ≤ 200 by omega) (by decide), by omega, ?_⟩
  rw [← hm]
  refine .rng [0, 3, 4, 6, 7, 8] (fun j vs => ∃ t, ∃ xs : List Int, ∃ l : Int, ∃ x y z, vs = [some t, some (.ow .lst (xs.map .int)), some (.fz (.int l)), x, y, z] ∧ IsBag t ∧ xs.length = j ∧ xs.Pairwise (· < ·) ∧ (∀ x, x ∈ xs → 0 < x ∧ x ≤ l) ∧ 0 ≤ l ∧ l + (m - j) ≤ e - 1) ⟨[_, _, _, _, _, _], rfl, _, [], 0, _, _, _, rfl, hb, rfl, List.Pairwise.nil, by simp, by omega, by simp; omega⟩ ?_ ?_
  · rintro j vs hj ⟨t, xs, l, x, y, z, rfl, hb, hl, hp, hx, l0, l1⟩
    have hjm : (j : Int) < m := by omega
    rw [Int.zero_add]
    walk_at "nf"
    refine ⟨cdivS (by omega) (by omega), ?_⟩
    refine ⟨_, _, rfl, hb, by decide, by decide, fun v t2 v0 v1 hb2 => ?_⟩
    have q0 : 0 ≤ (e - (m - (j : Int)) - l - 1) / (m - (j : Int)) := Int.ediv_nonneg (by omega) (by omega)
    have q1 : (e - (m - (j : Int)) - l - 1) / (m - (j : Int)) ≤ e - (m - (j : Int)) - l - 1 := Int.ediv_le_self _ (by omega)
    refine at_all (C := fun d => ∃ i : Int, d = .int i ∧ 1 ≤ i ∧ i ≤ e - (m - (j : Int)) - l) v0 v1 (by simp; omega) ?_
    rintro _ ⟨r, rfl, r1, r2⟩
    walk_at "nf"
    refine ⟨_, _, rfl, hb2, by omega, by omega, fun u t3 u0 u1 hb3 => ?_⟩
    walk_at "nf"
    refine ⟨rfl, by rw [List.length_map]; exact Nat.lt_of_le_of_lt (show xs.length ≤ 100 by omega) (by decide), ?_⟩
    refine ⟨[_, _, _, _, _, _], rfl, t3, xs ++ [l + 1 + u], l + 1 + u, _, _, _, by rw [List.map_append]; exact rfl, hb3, by simp [hl], List.pairwise_append.mpr ⟨hp, by simp, fun a ha b hb' => by
      simp at hb'; have := hx a ha; omega⟩, fun a ha => ?_, by omega, by omega⟩
    rcases List.mem_append.mp ha with q | q
    · have := hx a q; omega
    · simp at q; omega
  · rintro vs ⟨t, xs, l, x, y, z, rfl, hb, hl, hp, hx, l0, l1⟩
    exact h xs t ⟨hp, fun x hx' => by have := hx x hx'; omega, by omega⟩ (by omega) hb
theorem ok_bed (Df : DefAt K mg "_law_bed" s_bed ["_law_bag_here", "_law_grains_here", "_law_height", "_law_cap", "_law_length", "_law_width"]) (B : Bt mg) (C_take : Callee P w K mg base 1 "_law_take" ["_law_bag_here", "_law_many"] [0] takeX) (C_rising : Callee P w K mg base 2 "_law_rising" ["_law_bag_here", "_law_count", "_law_end"] [0] risingS) : Callee P w K mg base 3 "_law_bed" ["_law_bag_here", "_law_grains_here", "_law_height", "_law_cap", "_law_length", "_law_width"] [0] lbedS := by
  refine callee_of Df sc_bed (by decide) (by decide) fun f cdv A outer s H EX W hr hG tk hp => ?_
  refine ⟨_, (ss_cons (s_set 6 (q_callC C_take tk (hr.mono (by decide)) hG (by rfl) (a_own 0 (a_cons (p_nm 3).val a_nil)) [0]) sc_bed.nd)
      (ss_cons (s_set 7 (q_callC C_take tk (hr.mono (by decide)) hG (by rfl) (a_own 0 (a_cons (q_fdiv (p_nm 3) ((q_add (p_nm 6) (q_int).p)).p) a_nil)) [0]) sc_bed.nd)
      (ss_cons (s_if (t_eq (hu65 hr) ((q_callC C_take tk (hr.mono (by decide)) hG (by rfl) (a_own 0 (a_cons q_int a_nil)) [0])).p (q_int).p) (ss_one (s_par 6 7 (a_cons (p_nm 7).val (a_cons (p_nm 6).val a_nil)) rfl sc_bed.nd)) ss_nil).cut
      (ss_cons (s_set 8 (q_ixA (hu65 hr) ((q_lst (a_cons q_int (a_cons (q_add (q_int).p ((q_callC C_take tk (hr.mono (by decide)) hG (by rfl) (a_own 0 (a_cons q_int a_nil)) [0])).p) (a_cons q_int a_nil))))).p ((q_callC C_take tk (hr.mono (by decide)) hG (by rfl) (a_own 0 (a_cons q_int a_nil)) [0])).p) sc_bed.nd)
      (ss_cons (s_set 9 (q_ixA (hu65 hr) (p_nm 1) ((q_callC C_take tk (hr.mono (by decide)) hG (by rfl) (a_own 0 (a_cons (q_b1 c_lenB g_lenB (by rfl) B.len bt_len (p_nm 1)) a_nil)) [0])).p) sc_bed.nd)
      (ss_one (s_ret (q_tup (a_cons (p_nm 2).val (a_cons (p_nm 9).val (a_cons (p_nm 8).val (a_cons (q_callC C_rising tk (hr.mono (by decide)) hG (by rfl) (a_own 0 (a_cons (p_nm 6).val (a_cons (p_nm 4).val a_nil))) [0]) (a_cons (q_callC C_rising tk (hr.mono (by decide)) hG (by rfl) (a_own 0 (a_cons (p_nm 7).val (a_cons (p_nm 5).val a_nil))) [0]) a_nil))))))))))))), fun args Q E hl h => ?_⟩
  clear hl hr hG tk hp W EX H s outer A cdv f Df B C_take C_rising
  obtain ⟨t, gs, hh, c, L, W, rfl, hb, hg, g1, hm, c0, c1, hL, hW, h⟩ := h
  walk_at "nf"
  refine ⟨_, _, rfl, hb, by omega, by omega, fun a t1 a0 a1 hb1 => ?_⟩
  walk_at "nf"
  have d0 : 1 ≤ c / (a + 1) := (Int.le_ediv_iff_mul_le (by omega)).mpr (by omega)
  have d1 : c / (a + 1) ≤ c := Int.ediv_le_self _ (by omega)
  have d2 : (a + 1) * (c / (a + 1)) ≤ c := by rw [Int.mul_comm]; exact Int.ediv_mul_le _ (by omega)
  refine ⟨cdivS (by omega) (by omega), ?_⟩
  refine ⟨_, _, rfl, hb1, by omega, by omega, fun b t2 b0 b1 hb2 => ?_⟩
  have d3 : (a + 1) * (b + 1) ≤ c := Int.le_trans (Int.mul_le_mul_of_nonneg_left (show b + 1 ≤ c / (a + 1) by omega) (by omega)) d2
  walk_at "nf"
  refine .fr [0, 6, 7] (fun vs => ∃ t x y, vs = [some t, some (.fz (.int x)), some (.fz (.int y))] ∧ IsBag t ∧ (0 ≤ x ∧ x ≤ 23) ∧ (0 ≤ y ∧ y ≤ 23) ∧ (x + 1) * (y + 1) ≤ c) ?_ ?_
  · walk_at "nf"
    refine ⟨_, _, rfl, hb2, by decide, by decide, fun v t3 v0 v1 hb3 => ?_⟩
    refine ⟨.inl rfl, fun _ => ?_, fun _ => ⟨[_, _, _], rfl, _, a, b, rfl, hb3, by omega, by omega, d3⟩⟩
    exact ⟨[_, _, _], rfl, _, b, a, rfl, hb3, by omega, by omega, by rw [Int.mul_comm]; exact d3⟩
  rintro vs ⟨t, x, y, rfl, hb, hx, hy, hxy⟩
  walk_at "nf"
  refine ⟨_, _, rfl, hb, by decide, by decide, fun v t3 v0 v1 hb3 => ?_⟩
  walk_at "nf"
  refine ⟨_, _, rfl, hb3, by decide, by decide, fun u t4 u0 u1 hb4 => ?_⟩
  refine at_all (C := fun d => ∃ i : Int, d = .int i ∧ 1 ≤ i ∧ i ≤ 1000) u0 u1 (by simp; omega) ?_
  rintro _ ⟨wt, rfl, w1, w2⟩
  walk_at "nf"
  refine ⟨_, _, rfl, hb4, by simp; omega, by simp; omega, fun g t5 q0 q1 hb5 => ?_⟩
  refine at_all (C := fun d => ∃ g : Str, d = .str g ∧ gLet g) q0 (by simpa using q1) (by simpa using hg) ?_
  rintro _ ⟨gr, rfl, hgr⟩
  walk_at "nf"
  refine ⟨_, x, L, rfl, hb5, hx.1, hx.2, hL, fun xs t6 hxs hxl hb6 => ?_⟩
  refine ⟨_, y, W, rfl, hb6, hy.1, hy.2, hW, fun ys t7 hys hyl hb7 => ?_⟩
  refine h ⟨hh, gr, wt, xs, ys⟩ t7 ⟨hm, hgr, ⟨w1, w2⟩, hxs, hys⟩ rfl ?_ hb7
  show ((xs.length : Int) + 1) * ((ys.length : Int) + 1) ≤ c
  exact Int.le_trans (Int.mul_le_mul (show (xs.length : Int) + 1 ≤ x + 1 by omega) (show (ys.length : Int) + 1 ≤ y + 1 by omega) (by omega) (by omega)) hxy
theorem ok_bench (Df : DefAt K mg "_law_bench" s_bench ["_law_bag_here"]) (B : Bt mg) (C_grains : Callee P w K mg base 2 "_law_grains" ["_law_bag_here"] [0] grainsS) (C_measure : Callee P w K mg base 2 "_law_measure" ["_law_bag_here"] [0] measS) (C_take : Callee P w K mg base 1 "_law_take" ["_law_bag_here", "_law_many"] [0] takeX) (C_bed : Callee P w K mg base 3 "_law_bed" ["_law_bag_here", "_law_grains_here", "_law_height", "_law_cap", "_law_length", "_law_width"] [0] lbedS) : Callee P w K mg base 4 "_law_bench" ["_law_bag_here"] [0] lbenchS := by
  refine callee_of Df sc_bench (by decide) (by decide) fun f cdv A outer s H EX W hr hG tk hp => ?_
  refine ⟨_, (ss_cons (s_set 1 (q_callC C_grains tk (hr.mono (by decide)) hG (by rfl) (a_own 0 a_nil) [0]) sc_bench.nd)
      (ss_cons (s_set 2 (q_callC C_measure tk (hr.mono (by decide)) hG (by rfl) (a_own 0 a_nil) [0]) sc_bench.nd)
      (ss_cons (s_set 3 (q_callC C_measure tk (hr.mono (by decide)) hG (by rfl) (a_own 0 a_nil) [0]) sc_bench.nd)
      (ss_cons (s_set 4 (q_ixA (hu65 hr) ((q_lst (a_cons (q_add (q_int).p ((q_callC C_take tk (hr.mono (by decide)) hG (by rfl) (a_own 0 (a_cons q_int a_nil)) [0])).p) (a_cons (q_add (q_int).p ((q_callC C_take tk (hr.mono (by decide)) hG (by rfl) (a_own 0 (a_cons q_int a_nil)) [0])).p) a_nil)))).p ((q_callC C_take tk (hr.mono (by decide)) hG (by rfl) (a_own 0 (a_cons q_int a_nil)) [0])).p) sc_bench.nd)
      (ss_cons (s_set 5 (q_ixA (hu65 hr) ((q_lst (a_cons (q_fdiv (q_int).p (p_nm 4)) (a_cons (q_bl_ (call_min2 rfl) g_min2 (by rfl) B.min bt_min (a_cons q_int (a_cons (q_fdiv (q_int).p (p_nm 4)) a_nil))) a_nil)))).p ((q_callC C_take tk (hr.mono (by decide)) hG (by rfl) (a_own 0 (a_cons q_int a_nil)) [0])).p) sc_bench.nd)
      (ss_cons (s_set 6 (q_eq (hu65 hr) ((q_callC C_take tk (hr.mono (by decide)) hG (by rfl) (a_own 0 (a_cons q_int a_nil)) [0])).p (q_int).p) sc_bench.nd)
      (ss_cons (s_set 7 (q_callC C_take tk (hr.mono (by decide)) hG (by rfl) (a_own 0 (a_cons (q_mul (q_int).p (p_nm 4)) a_nil)) [0]) sc_bench.nd)
      (ss_cons (s_set 8 (q_lst a_nil) sc_bench.nd)
      (ss_cons (s_for hp rfl (i_rng (by rfl) B.range (p_nm 4).val) (g_name 9 sc_bench.nd) (ss_cons (s_set 10 (q_add (q_int).p ((q_callC C_take tk (hr.mono (by decide)) hG (by rfl) (a_own 0 (a_cons (q_ixA (hu65 hr) ((q_lst (a_cons q_int (a_cons (q_fdiv (q_int).p (p_nm 4)) a_nil)))).p ((q_callC C_take tk (hr.mono (by decide)) hG (by rfl) (a_own 0 (a_cons q_int a_nil)) [0])).p) a_nil)) [0])).p) sc_bench.nd)
      (ss_cons (s_if ((w_andM (t_val (p_nm 6).val) (w_and1 (t_eq (hu65 hr) (p_nm 9) ((q_sub (p_nm 4) (q_int).p)).p)))).t (ss_one (s_set 10 (q_sub (q_int).p ((q_b1 (cr_sum rfl) g_sum (by rfl) B.sum bt_sum ((q_lcO (own := [("_law_bed_here", 11)]) rfl sc_bench.nd (i_own 8) (blkOk_by (by rfl)) (fun _ _ _ _ _ => (g_name 11 sc_bench.nd)) (fun _ _ _ _ _ => ts_nil) (fun _ _ _ _ _ => (q_ixA (hu65 hr) (p_nm 11) (q_int).p)))).p)).p) sc_bench.nd)) ss_nil).cut
      (ss_cons (s_if (t_lt (p_nm 7) (p_nm 4)) (ss_one (s_set 5 (q_ixA (hu65 hr) ((q_lst (a_cons q_int (a_cons (q_sub (q_int).p (p_nm 4)) a_nil)))).p ((q_ty1 call_int1 g_int1 (by rfl) B.int bt_int ((q_eq (hu65 hr) (p_nm 9) (p_nm 7))).p)).p) sc_bench.nd)) ss_nil).cut
      (ss_one (s_expr (q_append 8 (a_cons (q_callC C_bed tk (hr.mono (by decide)) hG (by rfl) (a_own 0 (a_cons (p_nm 1).val (a_cons (p_nm 10).val (a_cons (p_nm 5).val (a_cons (p_nm 2).val (a_cons (p_nm 3).val a_nil)))))) [0]) a_nil))))))))
      (ss_one (s_ret (q_tup (a_cons (p_nm 2).val (a_cons (p_nm 3).val (a_cons (q_fzn 8) a_nil))))))))))))))), fun args Q E hl h => ?_⟩
  clear hl hr hG tk hp W EX H s outer A cdv f Df B C_grains C_measure C_take C_bed
  obtain ⟨t, rfl, hb, h⟩ := h
  walk_at "nf"
  refine ⟨_, rfl, hb, fun gs t1 hg g1 g2 hb1 => ?_⟩
  walk_at "nf"
  refine ⟨_, rfl, hb1, fun L t2 hL hb2 => ?_⟩
  walk_at "nf"
  refine ⟨_, rfl, hb2, fun W t3 hW hb3 => ?_⟩
  walk_at "nf"
  refine ⟨_, _, rfl, hb3, by decide, by decide, fun a t4 a0 a1 hb4 => ?_⟩
  walk_at "nf"
  refine ⟨_, _, rfl, hb4, by decide, by decide, fun b t5 b0 b1 hb5 => ?_⟩
  refine ⟨_, _, rfl, hb5, by decide, by decide, fun ix t6 i0 i1 hb6 => ?_⟩
  refine at_all (C := fun d => ∃ n : Int, d = .int n ∧ 1 ≤ n ∧ n ≤ 6) i0 i1 (by simp; omega) ?_
  rintro _ ⟨dp, rfl, d1, d2⟩
  walk_at "nf"
  refine ⟨cdivS (by omega) (by omega), ?_⟩
  refine ⟨cdivS (by omega) (by omega), ?_⟩
  have q0 : 4 ≤ 24 / dp := (Int.le_ediv_iff_mul_le (by omega)).mpr (by omega)
  have q1 : 24 / dp * dp ≤ 24 := Int.ediv_mul_le _ (by omega)
  refine ⟨_, _, rfl, hb6, by decide, by decide, fun jx t7 j0 j1 hb7 => ?_⟩
  refine at_all (C := fun d => ∃ c : Int, d = .int c ∧ 1 ≤ c ∧ c ≤ 24 / dp) j0 j1 (by simp; omega) ?_
  rintro _ ⟨cp, rfl, c1, c2⟩
  walk_at "nf"
  refine ⟨_, _, rfl, hb7, by decide, by decide, fun fu t8 f0 f1 hb8 => ?_⟩
  refine ⟨.inl rfl, ?_⟩
  walk_at "nf"
  refine ⟨cmulR (by omega) (by omega), ?_⟩
  refine ⟨_, _, rfl, hb8, by omega, by omega, fun lo t9 l0 l1 hb9 => ?_⟩
  walk_at "nf"
  obtain ⟨Hm, hHm⟩ : ∃ Hm : Int, Hm = 1000000 / dp := ⟨_, rfl⟩
  have r0 : 100000 ≤ Hm := by rw [hHm]; exact (Int.le_ediv_iff_mul_le (by omega)).mpr (by omega)
  have r1 : Hm * dp ≤ 1000000 := by rw [hHm]; exact Int.ediv_mul_le _ (by omega)
  have r2 : Hm ≤ 1000000 := by rw [hHm]; exact Int.ediv_le_self _ (by omega)
  refine ⟨Int.le_trans (show dp ≤ 200 by omega) (by decide), by omega, ?_⟩
  refine .rng [0, 5, 8, 9, 10] (fun j vs => ∃ (t : T) (c : Int) (B : List Bed) (x y : Option T), vs = [some t, some (.fz (.int c)), some (.ow .lst (B.map bedD)), x, y] ∧ IsBag t ∧ B.length = j ∧ (∀ b, b ∈ B → bedOk L W b) ∧ (dp ≤ lo → 1 ≤ c ∧ c ≤ 24 / dp) ∧ topF B ≤ 1000000 ∧ ((j : Int) < dp → topF B ≤ Hm * j) ∧ manyF B ≤ (if lo < dp then j + (if lo < j then 24 - dp else 0) else 24 / dp * j)) ⟨[_, _, _, _, _], rfl, _, cp, [], _, _, rfl, hb9, rfl, by simp, fun _ => ⟨c1, c2⟩, by decide, by simp [topF], by simp only [manyF, List.map_nil, List.sum_nil]; split <;> (try split) <;> omega⟩ ?_ ?_
  · rintro j vs hj ⟨t, c, B, x, y, rfl, hb, hBl, hBo, hc, ht1, ht2, hm⟩
    have hjd : (j : Int) < dp := by omega
    rw [Int.zero_add]
    walk_at "nf"
    refine ⟨cdivS (by omega) (by omega), ?_⟩
    refine ⟨_, _, rfl, hb, by decide, by decide, fun v t2 v0 v1 hb2 => ?_⟩
    refine at_all (C := fun d => ∃ n : Int, d = .int n ∧ 1 ≤ n ∧ n ≤ Hm) v0 v1 (by simp; omega) ?_
    rintro _ ⟨n, rfl, n1, n2⟩
    refine ⟨_, _, rfl, hb2, by omega, by omega, fun u t3 u0 u1 hb3 => ?_⟩
    walk_at "nf"
    refine .fr [10] (fun vs => ∃ h : Int, vs = [some (.fz (.int h))] ∧ 1 ≤ h ∧ topF B + h ≤ 1000000 ∧ ((j : Int) + 1 < dp → h ≤ Hm)) ?_ ?_
    · walk_at "nf"
      refine ⟨decide ((j : Int) = dp - 1), fun _ => ⟨.inl rfl, rfl, rfl⟩, fun z => ?_, fun z => ?_⟩
      · rw [Bool.and_eq_true, decide_eq_true_eq] at z
        have z2 := z.2
        have hb0 := ht2 hjd
        rw [z2, Int.mul_sub, Int.mul_one] at hb0
        refine .each B bedD rfl (fun b => .int b.h) (fun j a hj => ⟨fun _ => ⟨_, at_int (by decide) rfl, all_one hj, rfl⟩, fun z => nomatch z⟩) ?_
        refine ⟨B.map (·.h), by rw [List.map_map]; rfl, ?_⟩
        exact ⟨[_], rfl, 1000000 - topF B, rfl, by omega, by omega, by omega⟩
      · have hb0 := ht2 hjd
        have e := Int.mul_le_mul_of_nonneg_left (show (j : Int) + 1 ≤ dp by omega) (show 0 ≤ Hm by omega)
        rw [Int.mul_add, Int.mul_one] at e
        exact ⟨[_], rfl, 1 + u, rfl, by omega, by omega, by omega⟩
    rintro vs ⟨h, rfl, x1, x2, x3⟩
    walk_at "nf"
    refine .fr [5] (fun vs => ∃ c : Int, vs = [some (.fz (.int c))] ∧ 1 ≤ c ∧ manyF B + c ≤ (if lo < dp then j + 1 + (if lo < j + 1 then 24 - dp else 0) else 24 / dp * (j + 1)) ∧ (dp ≤ lo → 1 ≤ c ∧ c ≤ 24 / dp)) ?_ ?_
    · walk_at "nf"
      refine ⟨fun z => ?_, fun z => ?_⟩
      · have z := of_decide_eq_true z
        rw [if_pos z] at hm
        have hix : ∃ n : Int, atI [D.int 1, D.int (25 - dp)] (if decide ((j : Int) = lo) then 1 else 0) = some (.int n) ∧ 1 ≤ n ∧ manyF B + n ≤ j + 1 + (if lo < (j : Int) + 1 then 24 - dp else 0) := by
          by_cases e : (j : Int) = lo
          · refine ⟨25 - dp, by simp [e]; exact at_int (by decide) rfl, by omega, ?_⟩
            rw [if_neg (by omega)] at hm
            rw [if_pos (by omega)]; omega
          · refine ⟨1, by simp [e]; exact at_int (by decide) rfl, by omega, ?_⟩
            split at hm <;> split <;> omega
        obtain ⟨n, hn, n0, n1⟩ := hix
        refine ⟨.inl rfl, .int n, hn, ?_⟩
        exact ⟨[_], rfl, n, rfl, n0, by rw [if_pos z]; exact n1, by omega⟩
      · have z := of_decide_eq_false z
        rw [if_neg z] at hm
        have := hc (by omega)
        refine ⟨[_], rfl, c, rfl, this.1, ?_, hc⟩
        rw [if_neg z, Int.mul_add, Int.mul_one]; omega
    rintro vs ⟨c, rfl, x4, x5, x6⟩
    walk_at "nf"
    have hc24 : c ≤ 24 := by
      by_cases e : lo < dp
      · have := many_nonneg (B := B)
        rw [if_pos e] at x5
        split at x5 <;> omega
      · have := (x6 (by omega)).2
        have q2 : 24 / dp ≤ 24 := Int.ediv_le_self _ (by omega)
        omega
    refine ⟨rfl, ?_⟩
    refine ⟨_, gs, h, c, L, W, rfl, hb3, hg, ⟨g1, g2⟩, ⟨x1, by have := top_nonneg (B := B) fun b hb => (hBo b hb).1.1; omega⟩, x4, hc24, hL, hW, fun b t4 hbo hbh hbc hb4 => ?_⟩
    refine ⟨szL (by rw [List.length_map]; omega), ?_⟩
    refine ⟨[_, _, _, _, _], rfl, t4, c, B ++ [b], _, _, by rw [List.map_append]; exact rfl, hb4, by simp [hBl], fun a ha => ?_, x6, ?_, ?_, ?_⟩
    · rcases List.mem_append.mp ha with q | q
      · exact hBo a q
      · simp at q; subst q; exact hbo
    · rw [top_app]; omega
    · intro q
      have := ht2 hjd
      have := x3 (by omega)
      have e : Hm * ((j : Int) + 1) = Hm * j + Hm := by rw [Int.mul_add, Int.mul_one]
      rw [top_app, show ((j + 1 : Nat) : Int) = (j : Int) + 1 by omega, e]; omega
    · have e : manyF (B ++ [b]) = manyF B + ((b.xs.length : Int) + 1) * ((b.ys.length : Int) + 1) := by unfold manyF; simp
      rw [e]
      have : ((j + 1 : Nat) : Int) = (j : Int) + 1 := by omega
      rw [this]
      omega
  · rintro vs ⟨t, c, B, x, y, rfl, hb, hBl, hBo, hc, ht1, ht2, hm⟩
    refine h L W B t ⟨hL, hW, by omega, hBo, ht1, ?_⟩ hb
    have : ((dp.toNat : Nat) : Int) = dp := by omega
    rw [this] at hm
    split at hm
    · (try split at hm) <;> omega
    · omega

theorem ok_are_joints (Df : DefAt K mg "are_joints" s_are_joints ["thing"]) (B : Bt mg) (C_is_spot : Callee P w K mg base 3 "is_spot" ["thing"] [] spotS) : Callee P w K mg base 4 "are_joints" ["thing"] [] jointsX := by
  refine callee_of Df sc_are_joints (by decide) (by decide) fun f cdv A outer s H EX W hr hG tk hp => ?_
  refine ⟨_, (ss_cons (s_if ((w_orM (t_not (t_val (q_isi ki_lst (by rfl) B.isinstance (by rfl) B.list bt_list (p_nm 0)))) (w_or1 (t_gt ((q_b1 c_lenB g_lenB (by rfl) B.len bt_len (p_nm 0))).p ((q_glob (n := 23) (by rfl) B.g_MOST_JOINTS_bench)).p)))).t (ss_one (s_ret q_bl)) ss_nil)
      (ss_one (s_ret (q_b1 (cr_all rfl) g_all (by rfl) B.all bt_all ((q_lc (own := [("spot", 1)]) rfl sc_are_joints.nd (i_list (p_nm 0).val) (blkOk_by (by rfl)) (fun _ _ _ _ _ => (g_name 1 sc_are_joints.nd)) (fun _ _ _ _ _ => ts_nil) (fun _ _ _ _ _ => (q_callC C_is_spot takes0 (hr.mono (by decide)) hG (by rfl) (a_cons (p_nm 1).val a_nil) [])))).p)))), fun args Q E hl h => ?_⟩
  clear hl hr hG tk hp W EX H s outer A cdv f Df B C_is_spot
  obtain ⟨d, n, k, rfl, hg, hk, h⟩ := h
  walk_at "nf"
  by_cases hs : ∃ ds, d = .nd .lst ds
  · obtain ⟨ds, rfl⟩ := hs
    have hc : ∀ x, x ∈ ds → tyD x = true := fun x hx => by
      cases n with
      | zero => have := hg.pt; simp [D.pt] at this
      | succ n => exact (hg.lst x hx).ty
    refine ⟨true, rfl, decide ((23 : Int) < (ds.length : Nat)), fun _ => ⟨rfl, rfl⟩, fun z => ?_, fun z => ?_⟩
    · have z : decide ((23 : Int) < (ds.length : Nat)) = true := z
      have hf : jnB (.nd .lst ds) = false := by
        have : decide ((ds.length : Int) ≤ 23) = false := decide_eq_false (by have := of_decide_eq_true z; omega)
        simp only [jnB, this, Bool.false_and]
      rw [hf] at h
      exact h
    have z : decide ((23 : Int) < (ds.length : Nat)) = false := z
    walk_at "nf"
    refine .each ds (fun d => d) (List.map_id' ds).symm (fun d => .bl (btB d 0 1000000)) (fun j a hj => ⟨fun _ => ⟨a, rfl, hc a (List.mem_of_getElem? hj), all_one hj, rfl⟩, fun z => nomatch z⟩) ?_
    have hf : jnB (.nd .lst ds) = ds.all fun d => btB d 0 1000000 := by
      have : decide ((ds.length : Int) ≤ 23) = true := decide_eq_true (by have := of_decide_eq_false z; omega)
      simp only [jnB, this, Bool.true_and]
    rw [hf] at h
    refine ⟨ds.map fun d => btB d 0 1000000, by rw [List.map_map]; rfl, ?_⟩
    rw [List.all_map]
    exact h
  · have hk := kl_none hg.ty fun x e => hs ⟨x, e⟩
    have hf : jnB d = false := by
      unfold jnB; split
      · exact absurd ⟨_, rfl⟩ hs
      · rfl
    rw [hf] at h
    exact ⟨false, hk, true, fun z => (nomatch z), fun _ => h, fun z => nomatch z⟩
theorem ok_is_bed (Df : DefAt K mg "is_bed" s_is_bed ["thing"]) (B : Bt mg) (C_are_joints : Callee P w K mg base 4 "are_joints" ["thing"] [] jointsX) (C_is_measure : Callee P w K mg base 3 "is_measure" ["thing"] [] measureS) (C_is_grain : Callee P w K mg base 1 "is_grain" ["thing"] [] grainX) (C_is_whole : Callee P w K mg base 1 "is_whole" ["thing"] [] wholeS) : Callee P w K mg base 5 "is_bed" ["thing"] [] bedX := by
  refine callee_of Df sc_is_bed (by decide) (by decide) fun f cdv A outer s H EX W hr hG tk hp => ?_
  refine ⟨_, (ss_cons (s_if ((w_orM (t_not (t_val (q_isi ki_tup (by rfl) B.isinstance (by rfl) B.tuple bt_tuple (p_nm 0)))) (w_or1 (t_ne (hu65 hr) ((q_b1 c_lenB g_lenB (by rfl) B.len bt_len (p_nm 0))).p (q_int).p)))).t (ss_one (s_ret q_bl)) ss_nil)
      (ss_cons (s_if ((w_orM (t_not (t_val (q_callC C_is_measure tk (hr.mono (by decide)) hG (by rfl) (a_cons (q_ixA (hu65 hr) (p_nm 0) (q_int).p) a_nil) []))) (w_or1 (t_not (t_val (q_callC C_is_grain tk (hr.mono (by decide)) hG (by rfl) (a_cons (q_ixA (hu65 hr) (p_nm 0) (q_int).p) a_nil) [])))))).t (ss_one (s_ret q_bl)) ss_nil)
      (ss_cons (s_if ((w_orM (t_not (t_val (q_callC C_is_whole tk (hr.mono (by decide)) hG (by rfl) (a_cons (q_ixA (hu65 hr) (p_nm 0) (q_int).p) a_nil) []))) (w_or1 (t_not (t_chain op_le op_le (q_int).p ((q_ixA (hu65 hr) (p_nm 0) (q_int).p)).p ((q_glob (n := 1000) (by rfl) B.g_MOST_HEAVY_bench)).p))))).t (ss_one (s_ret q_bl)) ss_nil)
      (ss_one (s_ret (q_and (q_callC C_are_joints tk (hr.mono (by decide)) hG (by rfl) (a_cons (q_ixA (hu65 hr) (p_nm 0) (q_int).p) a_nil) []) (q_one (q_callC C_are_joints tk (hr.mono (by decide)) hG (by rfl) (a_cons (q_ixA (hu65 hr) (p_nm 0) (q_int).p) a_nil) [])))))))), fun args Q E hl h => ?_⟩
  clear hl hr hG tk hp W EX H s outer A cdv f Df B C_are_joints C_is_measure C_is_grain C_is_whole
  obtain ⟨d, n, k, rfl, hg, hk, h⟩ := h
  walk_at "nf"
  by_cases h5 : ∃ a g w x y, d = .nd .tup [a, g, w, x, y]
  · obtain ⟨a, g, w, x, y, rfl⟩ := h5
    have hc : ∃ m, ∀ e, e ∈ [a, g, w, x, y] → gd m k e := by
      cases n with
      | zero => have := hg.pt; simp [D.pt] at this
      | succ n => exact ⟨n, fun e he => hg.tup e he⟩
    obtain ⟨m, hc⟩ := hc
    have ga := hc a (by simp)
    have gg := hc g (by simp)
    have gw := hc w (by simp)
    have gx := hc x (by simp)
    have gy := hc y (by simp)
    have hq : bedB (.nd .tup [a, g, w, x, y]) = (btB a 1 1000000 && (grB g && (btB w 1 1000 && (jnB x && jnB y)))) := rfl
    rw [hq] at h
    refine ⟨true, rfl, false, fun _ => ⟨.inl rfl, rfl, rfl⟩, fun z => (nomatch z), fun _ => ?_⟩
    walk_at "nf"
    refine ⟨_, at_int (by decide) rfl, a, rfl, ga.ty, ?_⟩
    refine ⟨!grB g, fun _ => ⟨_, at_int (by decide) rfl, g, rfl, gg.ty, fun x hx => ?_, rfl, rfl⟩, fun z => ?_, fun z => ?_⟩
    · have := gg.sz; rw [hx, szD] at this; rw [sizeLine_eq]; rw [Str.length]; omega
    · have e : (btB a 1 1000000 && (grB g && (btB w 1 1000 && (jnB x && jnB y)))) = false := by
        revert z; cases btB a 1 1000000 <;> cases grB g <;> simp
      rw [e] at h
      exact h
    have e : btB a 1 1000000 = true ∧ grB g = true := by revert z; cases btB a 1 1000000 <;> cases grB g <;> simp
    rw [e.1, e.2, Bool.true_and, Bool.true_and] at h
    walk_at "nf"
    refine ⟨_, at_int (by decide) rfl, w, rfl, gw.ty, ?_⟩
    cases hw : iB w with
    | none =>
      have e3 : btB w 1 1000 = false := by unfold btB; rw [hw]
      rw [e3, Bool.false_and] at h
      have e4 : whB w = false := by unfold whB; rw [hw]; rfl
      rw [e4]
      exact ⟨true, fun z => (nomatch z), fun _ => h, fun z => nomatch z⟩
    | some i =>
      have := iB_some hw
      subst this
      have e3 : btB (.int i) 1 1000 = (decide (1 ≤ i) && decide (i ≤ 1000)) := by simp [btB, iB]
      rw [e3] at h
      refine ⟨!(decide (1 ≤ i) && decide (i ≤ 1000)), fun _ => ⟨_, at_int (by decide) rfl, decide (i ≤ 1000), fun _ => ⟨rfl, rfl⟩, rfl, rfl⟩, fun z => ?_, fun z => ?_⟩
      · have e : (decide (1 ≤ i) && decide (i ≤ 1000)) = false := by
          revert z; show (!true || !(decide (1 ≤ i) && decide (i ≤ 1000))) = true → _; cases (decide (1 ≤ i) && decide (i ≤ 1000)) <;> simp
        rw [e, Bool.false_and] at h
        exact h
      · have e : (decide (1 ≤ i) && decide (i ≤ 1000)) = true := by
          revert z; show (!true || !(decide (1 ≤ i) && decide (i ≤ 1000))) = false → _; cases (decide (1 ≤ i) && decide (i ≤ 1000)) <;> simp
        rw [e, Bool.true_and] at h
        walk_at "nf"
        refine ⟨_, at_int (by decide) rfl, x, m, k, rfl, gx, hk, fun z => ⟨_, at_int (by decide) rfl, y, m, k, rfl, gy, hk, ?_⟩, fun z => ?_⟩
        · rw [z, Bool.true_and] at h
          exact h
        · rw [z, Bool.false_and] at h
          exact h
  · by_cases ht3 : ∃ ds, d = .nd .tup ds
    · obtain ⟨ds, rfl⟩ := ht3
      have hf : bedB (.nd .tup ds) = false := by
        unfold bedB; split
        · rename_i e; cases e; exact absurd ⟨_, _, _, _, _, rfl⟩ h5
        · rfl
      rw [hf] at h
      refine ⟨true, rfl, true, fun _ => ⟨.inl rfl, ?_⟩, fun z => h, fun z => nomatch z⟩
      have hl : ds.length ≠ 5 := fun e => by
        match ds, e with
        | [a, b, c, d, e], _ => exact h5 ⟨_, _, _, _, _, rfl⟩
      refine ⟨?_, rfl⟩
      simp [eqD, T.d]
      omega
    · have hk := kt_none hg.tya fun ds e => ht3 ⟨ds, e⟩
      have hf : bedB d = false := by
        unfold bedB; split
        · exact absurd ⟨_, rfl⟩ ht3
        · rfl
      rw [hf] at h
      exact ⟨false, hk, true, fun z => (nomatch z), fun _ => h, fun z => nomatch z⟩
theorem ok_are_beds (Df : DefAt K mg "are_beds" s_are_beds ["thing"]) (B : Bt mg) (C_is_bed : Callee P w K mg base 5 "is_bed" ["thing"] [] bedX) : Callee P w K mg base 6 "are_beds" ["thing"] [] bedsX := by
  refine callee_of Df sc_are_beds (by decide) (by decide) fun f cdv A outer s H EX W hr hG tk hp => ?_
  refine ⟨_, (ss_cons (s_if ((w_orM (t_not (t_val (q_isi ki_lst (by rfl) B.isinstance (by rfl) B.list bt_list (p_nm 0)))) (w_or1 (t_not (t_chain op_le op_le (q_int).p ((q_b1 c_lenB g_lenB (by rfl) B.len bt_len (p_nm 0))).p ((q_glob (n := 6) (by rfl) B.g_MOST_BEDS_bench)).p))))).t (ss_one (s_ret q_bl)) ss_nil)
      (ss_one (s_ret (q_b1 (cr_all rfl) g_all (by rfl) B.all bt_all ((q_lc (own := [("bed", 1)]) rfl sc_are_beds.nd (i_list (p_nm 0).val) (blkOk_by (by rfl)) (fun _ _ _ _ _ => (g_name 1 sc_are_beds.nd)) (fun _ _ _ _ _ => ts_nil) (fun _ _ _ _ _ => (q_callC C_is_bed takes0 (hr.mono (by decide)) hG (by rfl) (a_cons (p_nm 1).val a_nil) [])))).p)))), fun args Q E hl h => ?_⟩
  clear hl hr hG tk hp W EX H s outer A cdv f Df B C_is_bed
  obtain ⟨d, n, k, rfl, hg, hk, h⟩ := h
  walk_at "nf"
  by_cases hs : ∃ ds, d = .nd .lst ds
  · obtain ⟨ds, rfl⟩ := hs
    have hc : ∀ x, x ∈ ds → ∃ m, gd m k x := fun x hx => by
      cases n with
      | zero => have := hg.pt; simp [D.pt] at this
      | succ n => exact ⟨n, hg.lst x hx⟩
    refine ⟨true, rfl, !(decide ((1 : Int) ≤ (ds.length : Nat)) && decide (((ds.length : Nat) : Int) ≤ 6)), fun _ => ⟨decide (((ds.length : Nat) : Int) ≤ 6), fun _ => ⟨rfl, rfl⟩, rfl, rfl⟩, fun z => ?_, fun z => ?_⟩
    · have hf : bedsB (.nd .lst ds) = false := by
        have z2 : (decide ((1 : Int) ≤ (ds.length : Nat)) && decide (((ds.length : Nat) : Int) ≤ 6)) = false := by revert z; cases (decide ((1 : Int) ≤ (ds.length : Nat)) && decide (((ds.length : Nat) : Int) ≤ 6)) <;> simp
        simp only [bedsB, z2, Bool.false_and]
      rw [hf] at h
      exact h
    have z2 : (decide ((1 : Int) ≤ (ds.length : Nat)) && decide (((ds.length : Nat) : Int) ≤ 6)) = true := by revert z; cases (decide ((1 : Int) ≤ (ds.length : Nat)) && decide (((ds.length : Nat) : Int) ≤ 6)) <;> simp
    walk_at "nf"
    refine .each ds (fun d => d) (List.map_id' ds).symm (fun d => .bl (bedB d)) (fun j a hj => ⟨fun _ => ?_, fun z => nomatch z⟩) ?_
    · obtain ⟨m, hm⟩ := hc a (List.mem_of_getElem? hj)
      exact ⟨a, m, k, rfl, hm, hk, all_one hj, rfl⟩
    have hf : bedsB (.nd .lst ds) = ds.all bedB := by
      simp only [bedsB, z2, Bool.true_and]
    rw [hf] at h
    refine ⟨ds.map bedB, by rw [List.map_map]; rfl, ?_⟩
    rw [List.all_map]
    exact h
  · have hk := kl_none hg.ty fun x e => hs ⟨x, e⟩
    have hf : bedsB d = false := by
      unfold bedsB; split
      · exact absurd ⟨_, rfl⟩ hs
      · rfl
    rw [hf] at h
    exact ⟨false, hk, true, fun z => (nomatch z), fun _ => h, fun z => nomatch z⟩
theorem ok_joints_stand (Df : DefAt K mg "joints_stand" s_joints_stand ["joints", "end"]) : Callee P w K mg base 1 "joints_stand" ["joints", "end"] [] standX := by
  refine callee_of Df sc_joints_stand (by decide) (by decide) fun f cdv A outer s H EX W hr hG tk hp => ?_
  refine ⟨_, (ss_cons (s_set 2 q_int sc_joints_stand.nd)
      (ss_cons (s_for hp rfl (i_list (p_nm 0).val) (g_name 3 sc_joints_stand.nd) (ss_cons (s_if (t_not (t_chain op_lt op_lt (p_nm 2) (p_nm 3) (p_nm 1))) (ss_one (s_ret q_bl)) ss_nil)
      (ss_one (s_set 2 (p_nm 3).val sc_joints_stand.nd))))
      (ss_one (s_ret q_bl)))), fun args Q E hl h => ?_⟩
  clear hl hr hG tk hp W EX H s outer A cdv f Df
  obtain ⟨xs, e, rfl, h⟩ := h
  walk_at "nf"
  refine .fr [2, 3] (fun j vs => ∃ (l : Int) (y : Option T), vs = [some (.fz (.int l)), y] ∧ stB e 0 xs = stB e l (xs.drop j)) ⟨[_, _], rfl, 0, _, rfl, rfl⟩ ?_ ?_
  · rintro j d vs hd ⟨l, y, rfl, hk⟩
    have hd : (xs.map D.int)[j]? = some d := hd
    rw [List.getElem?_map] at hd
    obtain ⟨v, hv, rfl⟩ := Option.map_eq_some_iff.mp hd
    have hdr : xs.drop j = v :: xs.drop (j + 1) := by
      obtain ⟨hl, he⟩ := List.getElem?_eq_some_iff.mp hv
      rw [List.drop_eq_getElem_cons hl, he]
    rw [hdr] at hk
    walk_at "nf"
    refine ⟨decide (v < e), fun _ => ⟨rfl, rfl⟩, fun z => ?_, fun z => ?_⟩
    · have z2 : (decide (l < v) && decide (v < e)) = false := by revert z; cases (decide (l < v) && decide (v < e)) <;> simp
      simp only [stB, z2, Bool.false_and] at hk
      rw [hk] at h
      exact h
    · have z2 : (decide (l < v) && decide (v < e)) = true := by revert z; cases (decide (l < v) && decide (v < e)) <;> simp
      simp only [stB, z2, Bool.true_and] at hk
      exact ⟨[_, _], rfl, v, _, rfl, hk⟩
  · rintro vs ⟨l, y, rfl, hk⟩
    have hk : stB e 0 xs = stB e l (xs.drop (xs.map D.int).length) := hk
    rw [List.length_map, List.drop_length] at hk
    rw [hk] at h
    exact h
theorem ok_Bench_init (Df : DefK K mg "Bench" (ca "Bench") "Bench.__init__" s_Bench_init ["self", "length", "width", "beds"]) (B : Bt mg) (KC_Bench : Cls K (ca "Bench")) (KN_Bench : ∀ x, x ∈ (["kept_beds", "kept_pieces", "long_and_wide", "top"] : List Str) → NoAttr K (ca "Bench") x) (R_NoBed : BareG1 P w K mg base 1 "NoBed" (ca "NoBed") "at" ["self", "at"]) (R_TooMany : BareG1 P w K mg base 1 "TooMany" (ca "TooMany") "most" ["self", "most"]) (R_Wrong : BareG1 P w K mg base 1 "Wrong" (ca "Wrong") "at" ["self", "at"]) (C_is_measure : Callee P w K mg base 3 "is_measure" ["thing"] [] measureS) (C_are_beds : Callee P w K mg base 6 "are_beds" ["thing"] [] bedsX) (C_like_bed : Callee P w K mg base 1 "like_bed" ["bed"] [] likeS) (C_pieces_of : Callee P w K mg base 2 "pieces_of" ["length", "width", "bed", "z"] [] piecesS) (C_joints_stand : Callee P w K mg base 1 "joints_stand" ["joints", "end"] [] standX) : CalleeK P w K mg base 7 "Bench" (ca "Bench") ["self", "length", "width", "beds"] (initXB ca) := by
  refine calleeK_of Df sc_Bench_init (by decide) (by decide) fun f cdv A outer s H EX W hr hG tk hp => ?_
  refine ⟨_, (ss_cons (s_if (t_not (t_val (q_callC C_is_measure tk (hr.mono (by decide)) hG (by rfl) (a_cons (p_nm 1).val a_nil) []))) (ss_one (s_raise1 ⟨R_Wrong.1, R_Wrong.2, R_Wrong.3⟩ tk rfl (hr.mono (by decide)) (by rfl) q_int passes0)) ss_nil)
      (ss_cons (s_if (t_not (t_val (q_callC C_is_measure tk (hr.mono (by decide)) hG (by rfl) (a_cons (p_nm 2).val a_nil) []))) (ss_one (s_raise1 ⟨R_Wrong.1, R_Wrong.2, R_Wrong.3⟩ tk rfl (hr.mono (by decide)) (by rfl) q_int passes0)) ss_nil)
      (ss_cons (s_if (t_not (t_val (q_callC C_are_beds tk (hr.mono (by decide)) hG (by rfl) (a_cons (p_nm 3).val a_nil) []))) (ss_one (s_raise1 ⟨R_Wrong.1, R_Wrong.2, R_Wrong.3⟩ tk rfl (hr.mono (by decide)) (by rfl) q_int passes0)) ss_nil)
      (ss_cons (s_fld 0 KC_Bench (KN_Bench _ (by simp)) (q_tup (a_cons (p_nm 1).val (a_cons (p_nm 2).val a_nil))))
      (ss_cons (s_fld 0 KC_Bench (KN_Bench _ (by simp)) ((q_lc (own := [("bed", 4)]) rfl sc_Bench_init.nd (i_list (p_nm 3).val) (blkOk_by (by rfl)) (fun _ _ _ _ _ => (g_name 4 sc_Bench_init.nd)) (fun _ _ _ _ _ => ts_nil) (fun _ _ _ _ _ => (q_callC C_like_bed takes0 (hr.mono (by decide)) hG (by rfl) (a_cons (p_nm 4).val a_nil) [])))).fz)
      (ss_cons (s_set 5 q_int sc_Bench_init.nd)
      (ss_cons (s_for hp rfl (i_enum (by rfl) B.enumerate (p_nm 3).val) (g_tup (n := 2) rfl (gs_cons (g_name 6 sc_Bench_init.nd) (gs_cons (g_name 4 sc_Bench_init.nd) gs_nil))) (ss_cons (s_set 5 ((q_add (p_nm 5) ((q_ixA (hu65 hr) (p_nm 4) (q_int).p)).p)).fz sc_Bench_init.nd)
      (ss_one (s_if ((w_orM (t_not (t_val (q_callC C_joints_stand tk (hr.mono (by decide)) hG (by rfl) (a_cons (q_ixA (hu65 hr) (p_nm 4) (q_int).p) (a_cons (p_nm 1).val a_nil)) []))) (w_orM (t_not (t_val (q_callC C_joints_stand tk (hr.mono (by decide)) hG (by rfl) (a_cons (q_ixA (hu65 hr) (p_nm 4) (q_int).p) (a_cons (p_nm 2).val a_nil)) []))) (w_or1 (t_gt (p_nm 5) ((q_glob (n := 1000000) (by rfl) B.g_FAR_bench)).p))))).t (ss_one (s_raise1 ⟨R_NoBed.1, R_NoBed.2, R_NoBed.3⟩ tk rfl (hr.mono (by decide)) (by rfl) (p_nm 6).val passes0)) ss_nil))))
      (ss_cons (s_if (t_gt ((q_b1 (cr_sum rfl) g_sum (by rfl) B.sum bt_sum ((q_lc (own := [("bed", 4)]) rfl sc_Bench_init.nd (i_list (p_nm 3).val) (blkOk_by (by rfl)) (fun _ _ _ _ _ => (g_name 4 sc_Bench_init.nd)) (fun _ _ _ _ _ => ts_nil) (fun _ _ _ _ _ => (q_mul ((q_add ((q_b1 c_lenB g_lenB (by rfl) B.len bt_len ((q_ixA (hu65 hr) (p_nm 4) (q_int).p)).p)).p (q_int).p)).p ((q_add ((q_b1 c_lenB g_lenB (by rfl) B.len bt_len ((q_ixA (hu65 hr) (p_nm 4) (q_int).p)).p)).p (q_int).p)).p)))).p)).p ((q_glob (n := 24) (by rfl) B.g_MOST_PIECES)).p) (ss_one (s_raise1 ⟨R_TooMany.1, R_TooMany.2, R_TooMany.3⟩ tk rfl (hr.mono (by decide)) (by rfl) (q_glob (n := 24) (by rfl) B.g_MOST_PIECES) passes0)) ss_nil)
      (ss_cons (s_fld 0 KC_Bench (KN_Bench _ (by simp)) (p_nm 5).val)
      (ss_cons (s_fld 0 KC_Bench (KN_Bench _ (by simp)) ((q_lst a_nil)).fz)
      (ss_cons (s_set 7 q_int sc_Bench_init.nd)
      (ss_one (s_for hp rfl (i_list ((q_fld KC_Bench (KN_Bench _ (by simp)) (p_nm 0))).fz) (g_name 4 sc_Bench_init.nd) (ss_cons (s_fld 0 KC_Bench (KN_Bench _ (by simp)) ((q_add ((q_fld KC_Bench (KN_Bench _ (by simp)) (p_nm 0))).p ((q_callC C_pieces_of tk (hr.mono (by decide)) hG (by rfl) (a_cons (p_nm 1).val (a_cons (p_nm 2).val (a_cons (p_nm 4).val (a_cons (p_nm 7).val a_nil)))) [])).p)).fz)
      (ss_one (s_set 7 ((q_add (p_nm 7) ((q_ixA (hu65 hr) (p_nm 4) (q_int).p)).p)).fz sc_Bench_init.nd)))))))))))))))), fun args Q E hl h => ?_⟩
  clear hl hr hG tk hp W EX H s outer A cdv f Df B KC_Bench KN_Bench R_NoBed R_TooMany R_Wrong C_is_measure C_are_beds C_like_bed C_pieces_of C_joints_stand
  obtain ⟨dl, dw, db, rfl, ⟨⟨n1, k1, g1, l1⟩, ⟨n2, k2, g2, l2⟩, ⟨n3, k3, g3, l3⟩⟩, h⟩ := h
  obtain ⟨w0, w1, w2, w3⟩ := gd_split h (fun ⟨L, W, B, e1, e2, e3, hw, _⟩ => by
    subst e1 e2 e3
    exact ⟨btI.mpr hw.1, btI.mpr hw.2.1, beds_ok hw.2.2⟩)
  clear h
  walk_at "nf"
  refine ⟨dl, rfl, g1.ty, fun z => w0 (by simpa using z) _, fun z => ?_⟩
  have e1 : btB dl 1 1000000 = true := by simpa using z
  refine ⟨dw, rfl, g2.ty, fun z => w1 e1 (by simpa using z) _, fun z => ?_⟩
  have e2 : btB dw 1 1000000 = true := by simpa using z
  refine ⟨db, n3, k3, rfl, g3, l3, fun z => w2 e1 e2 (by simpa using z) _, fun z => ?_⟩
  have e3 : bedsB db = true := by simpa using z
  obtain ⟨L, W, B, rfl, rfl, rfl, hB, hbed, hmany, h⟩ := w3 e1 e2 e3
  clear w0 w1 w2 w3 e1 e2 e3 g1 g2 g3
  walk_at "nf"
  refine ⟨rfl, show (0 : Nat) < 1000 by decide, ?_⟩
  refine .each B bedD rfl bedD (fun j a hj => ⟨fun _ => ⟨a, rfl, all_one hj, rfl⟩, fun z => nomatch z⟩) ?_
  refine ⟨rfl, show (1 : Nat) < 1000 by decide, ?_⟩
  walk_at "nf"
  refine .fr [4, 5, 6] (fun j vs => (∃ x y, vs = [x, some (.fz (.int (topF (B.take j)))), y]) ∧ ∀ i, i < j → badAt L W B i = false) ⟨[_, _, _], rfl, ⟨_, _, rfl⟩, by simp⟩ ?_ ?_
  · rintro j d vs hd ⟨⟨x, y, rfl⟩, hno⟩
    obtain ⟨e, he, rfl⟩ := enumD_get hd
    rw [List.getElem?_map] at he
    obtain ⟨b, hb, rfl⟩ := Option.map_eq_some_iff.mp he
    have hbo := hB.2.2.2 b (List.mem_of_getElem? hb)
    refine ⟨rfl, ?_⟩
    walk_at "nf"
    refine ⟨_, at_int (by decide) rfl, ?_⟩
    have hts := top_snoc hb
    have hbad : badAt L W B j = (!stB L 0 b.xs || (!stB W 0 b.ys || decide ((1000000 : Int) < topF (B.take j) + b.h))) := by
      unfold badAt; rw [hb, hts]
    refine ⟨_, at_int (by decide) rfl, b.xs, L, rfl, (!stB W 0 b.ys || decide ((1000000 : Int) < topF (B.take j) + b.h)), fun _ => ⟨_, at_int (by decide) rfl, b.ys, W, rfl, decide ((1000000 : Int) < topF (B.take j) + b.h), fun _ => ⟨rfl, rfl⟩, rfl, rfl⟩, fun z => ?_, fun z => ?_⟩
    · have hd : duF L W B = .bed j := by
        unfold duF
        rw [find_first hno (by rw [hbad]; exact z) (List.getElem?_eq_some_iff.mp hb).1]
      exact hbed j hd _
    · refine ⟨[_, _, _], rfl, ⟨_, _, by rw [hts]; try exact rfl⟩, fun i hi => ?_⟩
      rcases Nat.lt_or_eq_of_le (Nat.lt_succ_iff.mp hi) with r | r
      · exact hno i r
      · subst r; rw [hbad]; exact z
  rintro vs ⟨⟨x, y, rfl⟩, hno⟩
  have hno : ∀ i, i < B.length → badAt L W B i = false := fun i hi => hno i (by rw [enumD_len, List.length_map]; exact hi)
  rw [enumD_len, List.length_map, List.take_length]
  walk_at "nf"
  refine .each B bedD rfl (fun b => .int (((((b.xs.map D.int).length : Nat) : Int) + 1) * ((((b.ys.map D.int).length : Nat) : Int) + 1))) (fun j a hj => ⟨fun _ => ?_, fun z => nomatch z⟩) ?_
  · have ho := (hB.2.2.2 a (List.mem_of_getElem? hj)).2.2.2.1.1
    exact ⟨_, at_int (by decide) rfl, _, at_int (by decide) rfl, cmulL (by omega) (by rw [List.length_map]; omega), all_one hj, rfl⟩
  have em : (B.map fun b => ((((b.xs.map D.int).length : Nat) : Int) + 1) * ((((b.ys.map D.int).length : Nat) : Int) + 1)).sum = manyF B := by unfold manyF; congr 1; simp
  refine ⟨B.map fun b => ((((b.xs.map D.int).length : Nat) : Int) + 1) * ((((b.ys.map D.int).length : Nat) : Int) + 1), by rw [List.map_map]; rfl, ?_⟩
  rw [em]
  refine ⟨fun z => ?_, fun z => ?_⟩
  · have hd : duF L W B = .many := by
      unfold duF
      rw [find_none hno]
      show (if 24 < manyF B then Du.many else Du.told) = _
      rw [if_pos (of_decide_eq_true z)]
    exact hmany hd _
  have z : ¬ (24 : Int) < manyF B := of_decide_eq_false z
  have hd : duF L W B = .told := by
    unfold duF
    rw [find_none hno]
    show (if 24 < manyF B then Du.many else Du.told) = _
    rw [if_neg z]
  have hB := told_ok hB hno (by omega)
  have h := h hd hB
  have h7 := hB.2.2.2.2.2
  walk_at "nf"
  refine ⟨rfl, show (2 : Nat) < 1000 by decide, ?_⟩
  refine ⟨rfl, show (3 : Nat) < 1000 by decide, ?_⟩
  refine ⟨rfl, _, rfl, ?_⟩
  refine .over B bedD rfl [0, 4, 7] (fun j vs => ∃ x, vs = [some (.ow (.ins (ca "Bench") benK) [.nd .tup [.int L, .int W], bedsD B, .int (topF B), .nd .lst ((pcsF L W (B.take j) 0).map ppD)]), x, some (.fz (.int (topF (B.take j))))]) ⟨[_, _, _], rfl, _, rfl⟩ ?_ ?_
  · rintro j b vs hb ⟨x, rfl⟩
    have hbo := hB.2.2.2.1 b (List.mem_of_getElem? hb)
    have hsn := pcs_snoc (L := L) (W := W) hb
    have hts := top_snoc hb
    have hpl : (pcsF L W (B.take (j + 1)) 0).length ≤ 24 := by
      have e : pcsF L W B 0 = pcsF L W (B.take (j + 1)) 0 ++ pcsF L W (B.drop (j + 1)) (0 + topF (B.take (j + 1))) := by rw [← pcs_app, List.take_append_drop]
      have e2 := pcs_len (L := L) (W := W) (B := B) (z := 0)
      rw [e, List.length_append] at e2
      omega
    refine ⟨rfl, _, rfl, ?_⟩
    refine ⟨L, W, b, _, rfl, hbo.2.2.2.1.2.2, hbo.2.2.2.2.2.2, ?_⟩
    refine ⟨?_, rfl, show (4 : Nat) < 1000 by decide, ?_⟩
    · rw [← List.length_append, ← List.map_append, ← hsn, List.length_map]; exact Nat.le_trans hpl (by decide)
    refine ⟨_, at_int (by decide) rfl, ?_⟩
    exact ⟨[_, _, _], rfl, _, by rw [hsn, hts, List.map_append]; try exact rfl⟩
  · rintro vs ⟨x, rfl⟩
    rw [List.take_length]
    exact h
theorem ok_Bench_piece_kept (Df : DefM K (ca "Bench") "piece_kept" "Bench.piece_kept" s_Bench_piece_kept ["self", "piece"]) (B : Bt mg) (KC_Bench : Cls K (ca "Bench")) (KN_Bench : ∀ x, x ∈ (["kept_beds", "kept_pieces", "long_and_wide", "top"] : List Str) → NoAttr K (ca "Bench") x) (R_NoPiece : BareG1 P w K mg base 1 "NoPiece" (ca "NoPiece") "piece" ["self", "piece"]) (R_Wrong : BareG1 P w K mg base 1 "Wrong" (ca "Wrong") "at" ["self", "at"]) (C_is_whole : Callee P w K mg base 1 "is_whole" ["thing"] [] wholeS) : CalleeM P w K mg base 3 (ca "Bench") "piece_kept" ["self", "piece"] [] (keptXB ca) := by
  refine calleeM_of Df sc_Bench_piece_kept (by decide) (by decide) fun f cdv A outer s H EX W hr hG tk hp => ?_
  refine ⟨_, (ss_cons (s_if (t_not (t_val (q_callC C_is_whole tk (hr.mono (by decide)) hG (by rfl) (a_cons (p_nm 1).val a_nil) []))) (ss_one (s_raise1 ⟨R_Wrong.1, R_Wrong.2, R_Wrong.3⟩ tk rfl (hr.mono (by decide)) (by rfl) q_int passes0)) ss_nil)
      (ss_cons (s_if (t_not (t_chain op_le op_le (q_int).p (p_nm 1) ((q_b1 c_lenB g_lenB (by rfl) B.len bt_len ((q_fld KC_Bench (KN_Bench _ (by simp)) (p_nm 0))).p)).p)) (ss_one (s_raise1 ⟨R_NoPiece.1, R_NoPiece.2, R_NoPiece.3⟩ tk rfl (hr.mono (by decide)) (by rfl) (p_nm 1).val passes0)) ss_nil)
      (ss_one (s_ret (q_ixA (hu65 hr) ((q_fld KC_Bench (KN_Bench _ (by simp)) (p_nm 0))).p ((q_sub (p_nm 1) (q_int).p)).p))))), fun args Q E hl h => ?_⟩
  clear hl hr hG tk hp W EX H s outer A cdv f Df B KC_Bench KN_Bench R_NoPiece R_Wrong C_is_whole
  obtain ⟨L, W, B, d, rfl, ht, h⟩ := h
  walk_at "nf"
  refine ⟨d, rfl, ht, fun z => ?_, fun z => ?_⟩
  · have e : whB d = false := by simpa using z
    rcases h with ⟨_, h⟩ | ⟨i, rfl, _⟩
    · exact h
    · cases e
  have e : whB d = true := by simpa using z
  rcases h with ⟨e2, _⟩ | ⟨i, rfl, h⟩
  · rw [e] at e2; cases e2
  walk_at "nf"
  have hl : ((pcsF L W B 0).map ppD).length = (pcsF L W B 0).length := List.length_map ..
  refine ⟨decide (i ≤ ((((pcsF L W B 0).map ppD).length : Nat) : Int)), fun _ => ⟨rfl, _, rfl, rfl, rfl⟩, fun z => ?_, fun z => ?_⟩
  · rcases h with ⟨_, h⟩ | ⟨n, p, rfl, hp, h⟩
    · exact h
    · have hn := (List.getElem?_eq_some_iff.mp hp).1
      have e1 : decide ((1 : Int) ≤ ((n + 1 : Nat) : Int)) = true := by rw [decide_eq_true_eq]; omega
      have e2 : decide (((n + 1 : Nat) : Int) ≤ ((((pcsF L W B 0).map ppD).length : Nat) : Int)) = true := by rw [decide_eq_true_eq, hl]; omega
      exfalso
      have z : (!(decide ((1 : Int) ≤ ((n + 1 : Nat) : Int)) && decide (((n + 1 : Nat) : Int) ≤ ((((pcsF L W B 0).map ppD).length : Nat) : Int)))) = true := z
      rw [e1, e2] at z
      cases z
  · have z : (!(decide ((1 : Int) ≤ i) && decide (i ≤ ((((pcsF L W B 0).map ppD).length : Nat) : Int)))) = false := z
    rw [hl] at z
    simp only [Bool.not_eq_false', Bool.and_eq_true, decide_eq_true_eq] at z
    rcases h with ⟨hb, _⟩ | ⟨n, p, rfl, hp, h⟩
    · omega
    walk_at "nf"
    refine ⟨rfl, _, rfl, ppD p, at_int (by omega) (by rw [show (((n + 1 : Nat) : Int) - 1).toNat = n by omega, List.getElem?_map, hp]; rfl), ?_⟩
    exact h
theorem ok_Bench_box (Df : DefM K (ca "Bench") "box" "Bench.box" s_Bench_box ["self", "piece"]) (KC_Bench : Cls K (ca "Bench")) (KN_Bench : ∀ x, x ∈ (["kept_beds", "kept_pieces", "long_and_wide", "top"] : List Str) → NoAttr K (ca "Bench") x) (C_Bench_piece_kept : CalleeM P w K mg base 3 (ca "Bench") "piece_kept" ["self", "piece"] [] (keptXB ca)) : CalleeM P w K mg base 4 (ca "Bench") "box" ["self", "piece"] [] (bboxX ca) := by
  refine calleeM_of Df sc_Bench_box (by decide) (by decide) fun f cdv A outer s H EX W hr hG tk hp => ?_
  refine ⟨_, (ss_one (s_ret (q_ixA (hu65 hr) ((q_meth C_Bench_piece_kept KC_Bench tk (hr.mono (by decide)) hG (p_nm 0).val (a_cons (p_nm 1).val a_nil) [])).p (q_int).p))), fun args Q E hl h => ?_⟩
  clear hl hr hG tk hp W EX H s outer A cdv f Df KC_Bench KN_Bench C_Bench_piece_kept
  obtain ⟨L, W, B, d, rfl, ht, h⟩ := h
  walk_at "nf"
  exact ⟨⟨rfl, rfl⟩, L, W, B, d, rfl, ht, pcIx_imp h (fun x => x) (fun i x => x) fun p x => ⟨_, at_int (by decide) rfl, x⟩⟩
theorem ok_Bench_grain (Df : DefM K (ca "Bench") "grain" "Bench.grain" s_Bench_grain ["self", "piece"]) (KC_Bench : Cls K (ca "Bench")) (KN_Bench : ∀ x, x ∈ (["kept_beds", "kept_pieces", "long_and_wide", "top"] : List Str) → NoAttr K (ca "Bench") x) (C_Bench_piece_kept : CalleeM P w K mg base 3 (ca "Bench") "piece_kept" ["self", "piece"] [] (keptXB ca)) : CalleeM P w K mg base 4 (ca "Bench") "grain" ["self", "piece"] [] (grnX ca) := by
  refine calleeM_of Df sc_Bench_grain (by decide) (by decide) fun f cdv A outer s H EX W hr hG tk hp => ?_
  refine ⟨_, (ss_one (s_ret (q_ixA (hu65 hr) ((q_meth C_Bench_piece_kept KC_Bench tk (hr.mono (by decide)) hG (p_nm 0).val (a_cons (p_nm 1).val a_nil) [])).p (q_int).p))), fun args Q E hl h => ?_⟩
  clear hl hr hG tk hp W EX H s outer A cdv f Df KC_Bench KN_Bench C_Bench_piece_kept
  obtain ⟨L, W, B, d, rfl, ht, h⟩ := h
  walk_at "nf"
  exact ⟨⟨rfl, rfl⟩, L, W, B, d, rfl, ht, pcIx_imp h (fun x => x) (fun i x => x) fun p x => ⟨_, at_int (by decide) rfl, x⟩⟩
theorem ok_Bench_heavy (Df : DefM K (ca "Bench") "heavy" "Bench.heavy" s_Bench_heavy ["self", "piece"]) (KC_Bench : Cls K (ca "Bench")) (KN_Bench : ∀ x, x ∈ (["kept_beds", "kept_pieces", "long_and_wide", "top"] : List Str) → NoAttr K (ca "Bench") x) (C_Bench_piece_kept : CalleeM P w K mg base 3 (ca "Bench") "piece_kept" ["self", "piece"] [] (keptXB ca)) : CalleeM P w K mg base 4 (ca "Bench") "heavy" ["self", "piece"] [] (hvyX ca) := by
  refine calleeM_of Df sc_Bench_heavy (by decide) (by decide) fun f cdv A outer s H EX W hr hG tk hp => ?_
  refine ⟨_, (ss_one (s_ret (q_ixA (hu65 hr) ((q_meth C_Bench_piece_kept KC_Bench tk (hr.mono (by decide)) hG (p_nm 0).val (a_cons (p_nm 1).val a_nil) [])).p (q_int).p))), fun args Q E hl h => ?_⟩
  clear hl hr hG tk hp W EX H s outer A cdv f Df KC_Bench KN_Bench C_Bench_piece_kept
  obtain ⟨L, W, B, d, rfl, ht, h⟩ := h
  walk_at "nf"
  exact ⟨⟨rfl, rfl⟩, L, W, B, d, rfl, ht, pcIx_imp h (fun x => x) (fun i x => x) fun p x => ⟨_, at_int (by decide) rfl, x⟩⟩
theorem ok_spans_share (Df : DefAt K mg "spans_share" s_spans_share ["place", "other"]) : Callee P w K mg base 1 "spans_share" ["place", "other"] [] shareS := by
  refine callee_of Df sc_spans_share (by decide) (by decide) fun f cdv A outer s H EX W hr hG tk hp => ?_
  refine ⟨_, (ss_one (s_ret (q_and (q_lt ((q_ixA (hu65 hr) (p_nm 0) (q_int).p)).p ((q_add ((q_ixA (hu65 hr) (p_nm 1) (q_int).p)).p ((q_ixA (hu65 hr) (p_nm 1) (q_int).p)).p)).p) (q_one (q_lt ((q_ixA (hu65 hr) (p_nm 1) (q_int).p)).p ((q_add ((q_ixA (hu65 hr) (p_nm 0) (q_int).p)).p ((q_ixA (hu65 hr) (p_nm 0) (q_int).p)).p)).p))))), fun args Q E hl h => ?_⟩
  clear hl hr hG tk hp W EX H s outer A cdv f Df
  obtain ⟨p, q, rfl, h⟩ := h
  walk_at "nf"
  refine ⟨_, at_int (by decide) rfl, _, at_int (by decide) rfl, _, at_int (by decide) rfl, fun z => ?_, fun z => ?_⟩
  · refine ⟨_, at_int (by decide) rfl, _, at_int (by decide) rfl, _, at_int (by decide) rfl, ?_⟩
    unfold shB at h
    have z : decide (p.x < q.x + q.w) = true := z
    rw [z, Bool.true_and] at h
    exact h
  · unfold shB at h
    have z : decide (p.x < q.x + q.w) = false := z
    rw [z, Bool.false_and] at h
    exact h
theorem ok_Wall_marks (Df : DefM K (ca "Wall") "marks" "Wall.marks" s_Wall_marks ["self"]) (B : Bt mg) (KC_Wall : Cls K (ca "Wall")) (KN_Wall : ∀ x, x ∈ (["kept_courses"] : List Str) → NoAttr K (ca "Wall") x) : CalleeM P w K mg base 1 (ca "Wall") "marks" ["self"] [] (marksW ca) := by
  refine calleeM_of Df sc_Wall_marks (by decide) (by decide) fun f cdv A outer s H EX W hr hG tk hp => ?_
  refine ⟨_, (ss_cons (s_set 1 ((q_lst a_nil)).fz sc_Wall_marks.nd)
      (ss_cons (s_for hp rfl (i_enum (by rfl) B.enumerate ((q_fld KC_Wall (KN_Wall _ (by simp)) (p_nm 0))).fz) (g_tup (n := 2) rfl (gs_cons (g_name 2 sc_Wall_marks.nd) (gs_cons (g_name 3 sc_Wall_marks.nd) gs_nil))) (ss_one (s_set 1 ((q_add (p_nm 1) ((q_lc (own := [("at", 4)]) rfl sc_Wall_marks.nd (i_rng (by rfl) B.range (q_b1 c_lenB g_lenB (by rfl) B.len bt_len ((q_ixA (hu65 hr) (p_nm 3) (q_int).p)).p)) (blkOk_by (by rfl)) (fun _ _ _ _ _ => (g_name 4 sc_Wall_marks.nd)) (fun _ _ _ _ _ => ts_nil) (fun _ _ _ _ _ => (q_tup (a_cons (q_add (p_nm 2) (q_int).p) (a_cons (q_add (p_nm 4) (q_int).p) a_nil)))))).p)).fz sc_Wall_marks.nd)))
      (ss_one (s_ret (p_nm 1).val)))), fun args Q E hl h => ?_⟩
  clear hl hr hG tk hp W EX H s outer A cdv f Df B KC_Wall KN_Wall
  obtain ⟨C, rfl, hC, h⟩ := h
  walk_at "nf"
  refine ⟨rfl, _, rfl, ?_⟩
  refine .fr [1, 2, 3, 4] (fun j vs => ∃ x y z, vs = [some (.fz (mksD (mksF (C.take j) 1))), x, y, z]) ⟨[_, _, _, _], rfl, _, _, _, rfl⟩ ?_ ?_
  · rintro j d vs hd ⟨x, y, z, rfl⟩
    obtain ⟨e, he, rfl⟩ := enumD_get hd
    rw [List.getElem?_map] at he
    obtain ⟨c, hc, rfl⟩ := Option.map_eq_some_iff.mp he
    have hle := tot_le hc
    have hml := mks_len (C := C.take j) (k := 1)
    refine ⟨rfl, ?_⟩
    walk_at "nf"
    refine ⟨_, at_int (by decide) rfl, szI (by rw [List.length_map]; omega), by omega, ?_⟩
    refine .each (List.range c.ps.length) (fun k => .int (k : Nat)) (by rw [List.length_map]; unfold rngD; simp) (fun i => mkD ((j : Int) + 1, (i : Int) + 1)) (fun i a hi => ⟨fun _ => ⟨all_one hi, rfl⟩, fun z => nomatch z⟩) ?_
    refine ⟨szN (by show (List.map mkD _).length + (List.map _ (List.range _)).length ≤ _; rw [List.length_map, List.length_map, List.length_range]; omega), ?_⟩
    exact ⟨[_, _, _, _], rfl, _, _, _, by rw [mks_snoc hc, mksD, List.map_append, rowMk, List.map_map, Int.add_comm 1 (j : Int)]; rfl⟩
  · rintro vs ⟨x, y, z, rfl⟩
    rw [enumD_len, List.length_map, List.take_length]
    exact h
theorem ok_Wall_courses (Df : DefM K (ca "Wall") "courses" "Wall.courses" s_Wall_courses ["self"]) (B : Bt mg) (KC_Wall : Cls K (ca "Wall")) (KN_Wall : ∀ x, x ∈ (["kept_courses"] : List Str) → NoAttr K (ca "Wall") x) : CalleeM P w K mg base 1 (ca "Wall") "courses" ["self"] [] (coursesW ca) := by
  refine calleeM_of Df sc_Wall_courses (by decide) (by decide) fun f cdv A outer s H EX W hr hG tk hp => ?_
  refine ⟨_, (ss_one (s_ret ((q_lc (own := [("course", 1)]) rfl sc_Wall_courses.nd (i_list ((q_fld KC_Wall (KN_Wall _ (by simp)) (p_nm 0))).fz) (blkOk_by (by rfl)) (fun _ _ _ _ _ => (g_name 1 sc_Wall_courses.nd)) (fun _ _ _ _ _ => ts_nil) (fun _ _ _ _ _ => (q_tup (a_cons (q_ixA (hu65 hr) (p_nm 1) (q_int).p) (a_cons ((q_ty1 call_list_of g_list (by rfl) B.list bt_list ((q_ixA (hu65 hr) (p_nm 1) (q_int).p)).p)).fz a_nil)))))).fz)), fun args Q E hl h => ?_⟩
  clear hl hr hG tk hp W EX H s outer A cdv f Df B KC_Wall KN_Wall
  obtain ⟨C, rfl, h⟩ := h
  walk_at "nf"
  refine ⟨rfl, _, rfl, ?_⟩
  refine .each C coD rfl coD (fun j a hj => ⟨fun _ => ⟨_, at_int (by decide) rfl, _, at_int (by decide) rfl, all_one hj, rfl⟩, fun z => nomatch z⟩) ?_
  exact h
theorem ok_Wall_places_in (Df : DefM K (ca "Wall") "places_in" "Wall.places_in" s_Wall_places_in ["self", "course"]) (B : Bt mg) (KC_Wall : Cls K (ca "Wall")) (KN_Wall : ∀ x, x ∈ (["kept_courses"] : List Str) → NoAttr K (ca "Wall") x) : CalleeM P w K mg base 1 (ca "Wall") "places_in" ["self", "course"] [] (placesW ca) := by
  refine calleeM_of Df sc_Wall_places_in (by decide) (by decide) fun f cdv A outer s H EX W hr hG tk hp => ?_
  refine ⟨_, (ss_cons (s_if (t_not (t_chain op_le op_le (q_int).p (p_nm 1) ((q_b1 c_lenB g_lenB (by rfl) B.len bt_len ((q_fld KC_Wall (KN_Wall _ (by simp)) (p_nm 0))).p)).p)) (ss_one (s_ret ((q_lst a_nil)).fz)) ss_nil)
      (ss_one (s_ret (q_ixA (hu65 hr) ((q_ixA (hu65 hr) ((q_fld KC_Wall (KN_Wall _ (by simp)) (p_nm 0))).p ((q_sub (p_nm 1) (q_int).p)).p)).p (q_int).p)))), fun args Q E hl h => ?_⟩
  clear hl hr hG tk hp W EX H s outer A cdv f Df B KC_Wall KN_Wall
  obtain ⟨C, k, rfl, h⟩ := h
  walk_at "nf"
  refine ⟨decide (k ≤ (((C.map coD).length : Nat) : Int)), fun _ => ⟨rfl, _, rfl, rfl, rfl⟩, fun z => ?_, fun z => ?_⟩
  · have z : (!(decide (1 ≤ k) && decide (k ≤ (((C.map coD).length : Nat) : Int)))) = true := z
    rw [List.length_map] at z
    rw [psIn_no (by simp at z; omega)] at h
    exact h
  · have z : (!(decide (1 ≤ k) && decide (k ≤ (((C.map coD).length : Nat) : Int)))) = false := z
    rw [List.length_map] at z
    simp at z
    obtain ⟨c, hc⟩ : ∃ c, C[(k - 1).toNat]? = some c := ⟨_, List.getElem?_eq_getElem (by omega)⟩
    rw [psIn_at hc (by omega)] at h
    exact ⟨rfl, _, rfl, coD c, at_int (by omega) (by rw [List.getElem?_map, hc]; rfl), _, at_int (by decide) rfl, h⟩
theorem ok_wide (Df : DefAt K mg "_law_wide" s_wide ["_law_bag_here"]) (C_take : Callee P w K mg base 1 "_law_take" ["_law_bag_here", "_law_many"] [0] takeX) : Callee P w K mg base 2 "_law_wide" ["_law_bag_here"] [0] wideS := by
  refine callee_of Df sc_wide (by decide) (by decide) fun f cdv A outer s H EX W hr hG tk hp => ?_
  refine ⟨_, (ss_one (s_ret (q_ixA (hu65 hr) ((q_lst (a_cons (q_add (q_int).p ((q_callC C_take tk (hr.mono (by decide)) hG (by rfl) (a_own 0 (a_cons q_int a_nil)) [0])).p) (a_cons q_int (a_cons (q_add (q_int).p ((q_callC C_take tk (hr.mono (by decide)) hG (by rfl) (a_own 0 (a_cons q_int a_nil)) [0])).p) (a_cons q_int a_nil)))))).p ((q_callC C_take tk (hr.mono (by decide)) hG (by rfl) (a_own 0 (a_cons q_int a_nil)) [0])).p))), fun args Q E hl h => ?_⟩
  clear hl hr hG tk hp W EX H s outer A cdv f Df C_take
  obtain ⟨t, rfl, hb, h⟩ := h
  walk_at "nf"
  refine ⟨_, _, rfl, hb, by decide, by decide, fun a t1 a0 a1 hb1 => ?_⟩
  walk_at "nf"
  refine ⟨_, _, rfl, hb1, by decide, by decide, fun b t2 b0 b1 hb2 => ?_⟩
  walk_at "nf"
  refine ⟨_, _, rfl, hb2, by decide, by decide, fun c t3 c0 c1 hb3 => ?_⟩
  refine at_all (C := fun d => ∃ i : Int, d = .int i ∧ M6 i) c0 c1 (by simp [M6]; omega) ?_
  rintro _ ⟨i, rfl, hi⟩
  exact h i t3 hi hb3
theorem ok_place (Df : DefAt K mg "_law_place" s_place ["_law_bag_here", "_law_grains_here", "_law_at", "_law_behind"]) (B : Bt mg) (C_take : Callee P w K mg base 1 "_law_take" ["_law_bag_here", "_law_many"] [0] takeX) (C_wide : Callee P w K mg base 2 "_law_wide" ["_law_bag_here"] [0] wideS) : Callee P w K mg base 3 "_law_place" ["_law_bag_here", "_law_grains_here", "_law_at", "_law_behind"] [0] lplaceS := by
  refine callee_of Df sc_place (by decide) (by decide) fun f cdv A outer s H EX W hr hG tk hp => ?_
  refine ⟨_, (ss_cons (s_set 4 (q_ixA (hu65 hr) ((q_add (p_nm 1) ((q_lst (a_cons q_str a_nil))).p)).p ((q_callC C_take tk (hr.mono (by decide)) hG (by rfl) (a_own 0 (a_cons (q_add ((q_b1 c_lenB g_lenB (by rfl) B.len bt_len (p_nm 1))).p (q_int).p) a_nil)) [0])).p) sc_place.nd)
      (ss_cons (s_set 5 (q_ixA (hu65 hr) ((q_lst (a_cons q_str (a_cons q_str (a_cons q_str a_nil))))).p ((q_callC C_take tk (hr.mono (by decide)) hG (by rfl) (a_own 0 (a_cons q_int a_nil)) [0])).p) sc_place.nd)
      (ss_one (s_ret (q_tup (a_cons (p_nm 2).val (a_cons (q_sub (p_nm 3) (p_nm 2)) (a_cons (q_callC C_wide tk (hr.mono (by decide)) hG (by rfl) (a_own 0 a_nil) [0]) (a_cons (p_nm 4).val (a_cons (p_nm 5).val a_nil)))))))))), fun args Q E hl h => ?_⟩
  clear hl hr hG tk hp W EX H s outer A cdv f Df B C_take C_wide
  obtain ⟨t, gs, a, b, rfl, hb, hg, g1, a0, ab, b0, h⟩ := h
  walk_at "nf"
  refine ⟨szN (by simp; omega), ?_⟩
  refine ⟨_, _, rfl, hb, by rw [List.length_map]; omega, by rw [List.length_map]; omega, fun v t1 v0 v1 hb1 => ?_⟩
  refine at_all (C := fun d => ∃ x : Str, d = .str x ∧ gEmp x) v0 (by simp at v1 ⊢; omega) (fun d hd => by
    rcases List.mem_append.mp hd with q | q
    · obtain ⟨x, hx, rfl⟩ := List.mem_map.mp q
      exact ⟨x, rfl, .inl (hg x hx)⟩
    · simp at q; subst q; exact ⟨_, rfl, .inr rfl⟩) ?_
  rintro _ ⟨g, rfl, hgr⟩
  walk_at "nf"
  refine ⟨_, _, rfl, hb1, by decide, by decide, fun u t2 u0 u1 hb2 => ?_⟩
  refine at_all (C := fun d => ∃ x : Str, d = .str x ∧ Lie x) u0 u1 (by simp [Lie]) ?_
  rintro _ ⟨l, rfl, hl⟩
  walk_at "nf"
  refine ⟨_, rfl, hb2, fun w t3 hw hb3 => ?_⟩
  exact h ⟨a, b - a, w, g, l⟩ t3 ⟨a0, ⟨by show 1 ≤ b - a; omega, by show b - a ≤ 1000000; omega⟩, hw, hgr, hl, by show a + (b - a) ≤ 1000000; omega⟩ rfl (by show a + (b - a) = b; omega) hb3
theorem ok_row (Df : DefAt K mg "_law_row" s_row ["_law_bag_here", "_law_grains_here", "_law_count", "_law_edges_here"]) (B : Bt mg) (C_take : Callee P w K mg base 1 "_law_take" ["_law_bag_here", "_law_many"] [0] takeX) (C_place : Callee P w K mg base 3 "_law_place" ["_law_bag_here", "_law_grains_here", "_law_at", "_law_behind"] [0] lplaceS) : Callee P w K mg base 4 "_law_row" ["_law_bag_here", "_law_grains_here", "_law_count", "_law_edges_here"] [0] lrowS := by
  refine callee_of Df sc_row (by decide) (by decide) fun f cdv A outer s H EX W hr hG tk hp => ?_
  refine ⟨_, (ss_cons (s_set 4 (q_lst a_nil) sc_row.nd)
      (ss_cons (s_set 5 q_int sc_row.nd)
      (ss_cons (s_for hp rfl (i_rng (by rfl) B.range (p_nm 2).val) (g_name 6 sc_row.nd) (ss_cons (s_set 7 (q_sub (q_int).p (p_nm 5)) sc_row.nd)
      (ss_cons (s_if (t_lt (p_nm 7) (q_int).p) (ss_one s_break) ss_nil)
      (ss_cons (s_set 8 (q_sub ((q_add ((q_ixA (hu65 hr) (p_nm 3) ((q_callC C_take tk (hr.mono (by decide)) hG (by rfl) (a_own 0 (a_cons (q_b1 c_lenB g_lenB (by rfl) B.len bt_len (p_nm 3)) a_nil)) [0])).p)).p ((q_callC C_take tk (hr.mono (by decide)) hG (by rfl) (a_own 0 (a_cons q_int a_nil)) [0])).p)).p (q_int).p) sc_row.nd)
      (ss_cons (s_set 9 (q_ixA (hu65 hr) ((q_lst (a_cons q_int (a_cons q_int (a_cons (q_callC C_take tk (hr.mono (by decide)) hG (by rfl) (a_own 0 (a_cons q_int a_nil)) [0]) (a_cons (q_callC C_take tk (hr.mono (by decide)) hG (by rfl) (a_own 0 (a_cons (q_add (q_int).p ((q_fdiv (p_nm 7) (q_int).p)).p) a_nil)) [0]) (a_cons (q_sub (p_nm 8) (p_nm 5)) (a_cons (q_sub (p_nm 8) (p_nm 5)) a_nil)))))))).p ((q_callC C_take tk (hr.mono (by decide)) hG (by rfl) (a_own 0 (a_cons q_int a_nil)) [0])).p) sc_row.nd)
      (ss_cons (s_set 10 ((q_add (p_nm 5) ((q_bl_ (call_max2 rfl) g_max2 (by rfl) B.max bt_max (a_cons q_int (a_cons (q_bl_ (call_min2 rfl) g_min2 (by rfl) B.min bt_min (a_cons (q_sub (p_nm 7) (q_int).p) (a_cons (p_nm 9).val a_nil))) a_nil)))).p)).fz sc_row.nd)
      (ss_cons (s_set 8 (q_sub ((q_add ((q_ixA (hu65 hr) (p_nm 3) ((q_callC C_take tk (hr.mono (by decide)) hG (by rfl) (a_own 0 (a_cons (q_b1 c_lenB g_lenB (by rfl) B.len bt_len (p_nm 3)) a_nil)) [0])).p)).p ((q_callC C_take tk (hr.mono (by decide)) hG (by rfl) (a_own 0 (a_cons q_int a_nil)) [0])).p)).p (q_int).p) sc_row.nd)
      (ss_cons (s_set 11 (q_add ((q_add (p_nm 10) (q_int).p)).p ((q_callC C_take tk (hr.mono (by decide)) hG (by rfl) (a_own 0 (a_cons (q_add (q_int).p ((q_fdiv ((q_sub (q_int).p (p_nm 10))).p (q_int).p)).p) a_nil)) [0])).p) sc_row.nd)
      (ss_cons (s_set 5 (q_ixA (hu65 hr) ((q_lst (a_cons (q_add ((q_add (p_nm 10) (q_int).p)).p ((q_callC C_take tk (hr.mono (by decide)) hG (by rfl) (a_own 0 (a_cons q_int a_nil)) [0])).p) (a_cons (q_add (p_nm 10) (q_int).p) (a_cons (p_nm 11).val (a_cons (p_nm 8).val (a_cons (p_nm 8).val (a_cons q_int a_nil)))))))).p ((q_bl_ (call_min2 rfl) g_min2 (by rfl) B.min bt_min (a_cons (q_callC C_take tk (hr.mono (by decide)) hG (by rfl) (a_own 0 (a_cons q_int a_nil)) [0]) (a_cons (q_callC C_take tk (hr.mono (by decide)) hG (by rfl) (a_own 0 (a_cons q_int a_nil)) [0]) a_nil)))).p) sc_row.nd)
      (ss_cons (s_set 5 (q_bl_ (call_max2 rfl) g_max2 (by rfl) B.max bt_max (a_cons (q_add (p_nm 10) (q_int).p) (a_cons (q_bl_ (call_min2 rfl) g_min2 (by rfl) B.min bt_min (a_cons q_int (a_cons (p_nm 5).val a_nil))) a_nil))) sc_row.nd)
      (ss_one (s_expr (q_append 4 (a_cons (q_callC C_place tk (hr.mono (by decide)) hG (by rfl) (a_own 0 (a_cons (p_nm 1).val (a_cons (p_nm 10).val (a_cons (p_nm 5).val a_nil)))) [0]) a_nil))))))))))))))
      (ss_one (s_ret (q_fzn 4)))))), fun args Q E hl h => ?_⟩
  clear hl hr hG tk hp W EX H s outer A cdv f Df B C_take C_place
  obtain ⟨t, gs, n, es, rfl, hb, hg, g1, n0, n1, he, h⟩ := h
  walk_at "nf"
  refine ⟨szI (by omega), by omega, ?_⟩
  refine .rng [0, 4, 5, 6, 7, 8, 9, 10, 11] (fun j vs => ∃ (t : T) (ps : List Pl) (a b c d e f : Option T), vs = [some t, some (.ow .lst (ps.map plD)), some (.fz (.int (rowEnd 0 ps))), a, b, c, d, e, f] ∧ IsBag t ∧ (∀ p, p ∈ ps → plOk p) ∧ inRow 0 ps ∧ ps.length ≤ j ∧ 0 ≤ rowEnd 0 ps ∧ rowEnd 0 ps ≤ 1000000) ⟨[_, _, _, _, _, _, _, _, _], rfl, _, [], _, _, _, _, _, _, rfl, hb, by simp, trivial, Nat.le_refl _, Int.le_refl _, by decide⟩ ?_ ?_
  · rintro j vs hj ⟨t, ps, a1, a2, a3, a4, a5, a6, rfl, hb, hps, hr, hl, e0, e1⟩
    rw [Int.zero_add]
    walk_at "nf"
    refine ⟨fun z => h ps t hps hr (by omega) hb, fun z => ?_⟩
    have z : ¬ (1000000 - rowEnd 0 ps < 1) := of_decide_eq_false z
    obtain ⟨e, he0⟩ : ∃ e, e = rowEnd 0 ps := ⟨_, rfl⟩
    rw [← he0] at z e0 e1 ⊢
    walk_at "nf"
    refine ⟨_, _, rfl, hb, by rw [List.length_map]; omega, by rw [List.length_map]; omega, fun u t2 u0 u1 hb2 => ?_⟩
    refine at_all (C := fun d => ∃ n : Int, d = .int n) u0 u1 (fun d hd => by
      obtain ⟨x, _, rfl⟩ := List.mem_map.mp hd; exact ⟨x, rfl⟩) ?_
    rintro _ ⟨x1, rfl⟩
    refine ⟨_, _, rfl, hb2, by decide, by decide, fun v t3 v0 v1 hb3 => ?_⟩
    walk_at "nf"
    refine ⟨_, _, rfl, hb3, by decide, by decide, fun g t4 g0 g1' hb4 => ?_⟩
    refine ⟨cdivS (by omega) (by omega), ?_⟩
    have d0 : 0 ≤ (1000000 - e) / 8 := Int.ediv_nonneg (by omega) (by omega)
    have d1 : (1000000 - e) / 8 ≤ 1000000 - e := Int.ediv_le_self _ (by omega)
    refine ⟨_, _, rfl, hb4, by omega, by omega, fun g2 t5 g20 g21 hb5 => ?_⟩
    refine ⟨_, _, rfl, hb5, by decide, by decide, fun ix t6 i0 i1 hb6 => ?_⟩
    refine at_all (C := fun d => ∃ n : Int, d = .int n) i0 i1 (by simp) ?_
    rintro _ ⟨gap, rfl⟩
    walk_at "nf"
    obtain ⟨at', hat⟩ : ∃ a : Int, a = e + max 0 (min (1000000 - e - 1) gap) := ⟨_, rfl⟩
    have hat0 : e ≤ at' ∧ at' ≤ 999999 := by omega
    refine ⟨_, _, rfl, hb6, by rw [List.length_map]; omega, by rw [List.length_map]; omega, fun u t7 u0 u1 hb7 => ?_⟩
    refine at_all (C := fun d => ∃ n : Int, d = .int n) u0 u1 (fun d hd => by
      obtain ⟨x, _, rfl⟩ := List.mem_map.mp hd; exact ⟨x, rfl⟩) ?_
    rintro _ ⟨x2, rfl⟩
    refine ⟨_, _, rfl, hb7, by decide, by decide, fun v t8 v0 v1 hb8 => ?_⟩
    rw [← hat]
    walk_at "nf"
    refine ⟨cdivS (by omega) (by omega), ?_⟩
    have d0 : 0 ≤ (1000000 - at') / 8 := Int.ediv_nonneg (by omega) (by omega)
    have d1 : (1000000 - at') / 8 ≤ 1000000 - at' := Int.ediv_le_self _ (by omega)
    refine ⟨_, _, rfl, hb8, by omega, by omega, fun fa t9 f0 f1 hb9 => ?_⟩
    walk_at "nf"
    refine ⟨_, _, rfl, hb9, by decide, by decide, fun p t10 p0 p1 hb10 => ?_⟩
    refine ⟨_, _, rfl, hb10, by decide, by decide, fun q t11 q0 q1 hb11 => ?_⟩
    refine ⟨_, _, rfl, hb11, by decide, by decide, fun q' t12 q'0 q'1 hb12 => ?_⟩
    refine at_all (C := fun d => ∃ n : Int, d = .int n) (show 0 ≤ min q q' by omega) (show min q q' < ((6 : Nat) : Int) by omega) (by simp) ?_
    rintro _ ⟨en, rfl⟩
    walk_at "nf"
    refine ⟨rfl, t12, gs, at', max (at' + 1) (min 1000000 en), rfl, hb12, hg, g1, by omega, by omega, by omega, fun pl t13 hpl hpx hpe hb13 => ?_⟩
    refine ⟨szL (by rw [List.length_map]; omega), ?_⟩
    refine ⟨[_, _, _, _, _, _, _, _, _], rfl, t13, ps ++ [pl], _, _, _, _, _, _, by rw [List.map_append, rowEnd_snoc, hpe]; try rfl, hb13, fun p hp => ?_, inRow_snoc hr (by omega), by simp; omega, by rw [rowEnd_snoc]; omega, by rw [rowEnd_snoc]; omega⟩
    rcases List.mem_append.mp hp with r | r
    · exact hps p r
    · simp at r; subst r; exact hpl
  · rintro vs ⟨t, ps, a1, a2, a3, a4, a5, a6, rfl, hb, hps, hr, hl, e0, e1⟩
    exact h ps t hps hr (by omega) hb
theorem ok_share (Df : DefAt K mg "_law_share" s_share ["_law_one", "_law_other"]) (B : Bt mg) : Callee P w K mg base 1 "_law_share" ["_law_one", "_law_other"] [] lshareS := by
  refine callee_of Df sc_share (by decide) (by decide) fun f cdv A outer s H EX W hr hG tk hp => ?_
  refine ⟨_, (ss_one (s_ret (q_lt ((q_bl_ (call_max2 rfl) g_max2 (by rfl) B.max bt_max (a_cons (q_ixA (hu65 hr) (p_nm 0) (q_int).p) (a_cons (q_ixA (hu65 hr) (p_nm 1) (q_int).p) a_nil)))).p ((q_bl_ (call_min2 rfl) g_min2 (by rfl) B.min bt_min (a_cons ((q_add ((q_ixA (hu65 hr) (p_nm 0) (q_int).p)).p ((q_ixA (hu65 hr) (p_nm 0) (q_int).p)).p)).fz (a_cons ((q_add ((q_ixA (hu65 hr) (p_nm 1) (q_int).p)).p ((q_ixA (hu65 hr) (p_nm 1) (q_int).p)).p)).fz a_nil)))).p))), fun args Q E hl h => ?_⟩
  clear hl hr hG tk hp W EX H s outer A cdv f Df B
  obtain ⟨p, q, rfl, hp, hq, h⟩ := h
  walk_at "nf"
  refine ⟨_, at_int (by decide) rfl, _, at_int (by decide) rfl, _, at_int (by decide) rfl, _, at_int (by decide) rfl, _, at_int (by decide) rfl, _, at_int (by decide) rfl, ?_⟩
  have e : shB p q = decide (max p.x q.x < min (p.x + p.w) (q.x + q.w)) := by
    unfold shB
    rw [← Bool.decide_and]
    exact decide_eq_decide.mpr (by omega)
  rw [e] at h
  exact h
theorem ok_edges (Df : DefAt K mg "_law_edges" s_edges ["_law_places"]) : Callee P w K mg base 1 "_law_edges" ["_law_places"] [] edgesS := by
  refine callee_of Df sc_edges (by decide) (by decide) fun f cdv A outer s H EX W hr hG tk hp => ?_
  refine ⟨_, (ss_cons (s_set 1 ((q_lst (a_cons q_int (a_cons q_int (a_cons q_int a_nil))))).fz sc_edges.nd)
      (ss_cons (s_for hp rfl (i_list (p_nm 0).val) (g_name 2 sc_edges.nd) (ss_one (s_set 1 ((q_add (p_nm 1) ((q_lst (a_cons (q_ixA (hu65 hr) (p_nm 2) (q_int).p) (a_cons ((q_add ((q_ixA (hu65 hr) (p_nm 2) (q_int).p)).p ((q_ixA (hu65 hr) (p_nm 2) (q_int).p)).p)).fz a_nil)))).p)).fz sc_edges.nd)))
      (ss_one (s_ret (p_nm 1).val)))), fun args Q E hl h => ?_⟩
  clear hl hr hG tk hp W EX H s outer A cdv f Df
  obtain ⟨ps, rfl, hp, h⟩ := h
  walk_at "nf"
  refine .over ps plD rfl [1, 2] (fun j vs => ∃ y, vs = [some (.fz (intsD (edgF (ps.take j)))), y]) ⟨[_, _], rfl, _, rfl⟩ ?_ ?_
  · rintro j p vs hj ⟨y, rfl⟩
    have hjl := (List.getElem?_eq_some_iff.mp hj).1
    have hle := edgF_len (ps := ps.take j)
    rw [List.length_take, Nat.min_eq_left (by omega)] at hle
    walk_at "nf"
    refine ⟨_, at_int (by decide) rfl, _, at_int (by decide) rfl, _, at_int (by decide) rfl, szN (by simp; omega), ?_⟩
    exact ⟨[_, _], rfl, _, by rw [edgF_snoc hj, intsD, List.map_append]; try rfl⟩
  · rintro vs ⟨y, rfl⟩
    rw [List.take_length]
    exact h
theorem ok_shut (Df : DefAt K mg "_law_shut" s_shut ["_law_bag_here"]) (B : Bt mg) (C_grains : Callee P w K mg base 2 "_law_grains" ["_law_bag_here"] [0] grainsS) (C_take : Callee P w K mg base 1 "_law_take" ["_law_bag_here", "_law_many"] [0] takeX) (C_row : Callee P w K mg base 4 "_law_row" ["_law_bag_here", "_law_grains_here", "_law_count", "_law_edges_here"] [0] lrowS) (C_edges : Callee P w K mg base 1 "_law_edges" ["_law_places"] [] edgesS) (C_wide : Callee P w K mg base 2 "_law_wide" ["_law_bag_here"] [0] wideS) (C_share : Callee P w K mg base 1 "_law_share" ["_law_one", "_law_other"] [] lshareS) : Callee P w K mg base 5 "_law_shut" ["_law_bag_here"] [0] shutS := by
  refine callee_of Df sc_shut (by decide) (by decide) fun f cdv A outer s H EX W hr hG tk hp => ?_
  refine ⟨_, (ss_cons (s_set 1 (q_callC C_grains tk (hr.mono (by decide)) hG (by rfl) (a_own 0 a_nil) [0]) sc_shut.nd)
      (ss_cons (s_set 2 (q_add (q_int).p ((q_callC C_take tk (hr.mono (by decide)) hG (by rfl) (a_own 0 (a_cons q_int a_nil)) [0])).p) sc_shut.nd)
      (ss_cons (s_set 3 (q_ixA (hu65 hr) ((q_lst (a_cons (q_fdiv (q_int).p (p_nm 2)) (a_cons (q_bl_ (call_min2 rfl) g_min2 (by rfl) B.min bt_min (a_cons q_int (a_cons (q_fdiv (q_int).p (p_nm 2)) a_nil))) a_nil)))).p ((q_callC C_take tk (hr.mono (by decide)) hG (by rfl) (a_own 0 (a_cons q_int a_nil)) [0])).p) sc_shut.nd)
      (ss_cons (s_set 4 (q_callC C_take tk (hr.mono (by decide)) hG (by rfl) (a_own 0 (a_cons q_int a_nil)) [0]) sc_shut.nd)
      (ss_cons (s_set 5 (q_lst a_nil) sc_shut.nd)
      (ss_cons (s_set 6 ((q_lst a_nil)).fz sc_shut.nd)
      (ss_cons (s_for hp rfl (i_rng (by rfl) B.range (p_nm 2).val) (g_name 7 sc_shut.nd) (ss_cons (s_set 8 (q_callC C_take tk (hr.mono (by decide)) hG (by rfl) (a_own 0 (a_cons (q_add (p_nm 3) (q_int).p) a_nil)) [0]) sc_shut.nd)
      (ss_cons (s_if (t_lt (p_nm 4) (q_int).p) (ss_one (s_set 8 (q_ixA (hu65 hr) ((q_lst (a_cons q_int (a_cons (q_sub (q_int).p (p_nm 2)) a_nil)))).p ((q_ty1 call_int1 g_int1 (by rfl) B.int bt_int ((q_eq (hu65 hr) (p_nm 7) ((q_ixA (hu65 hr) ((q_lst (a_cons q_int (a_cons (q_sub (p_nm 2) (q_int).p) a_nil)))).p (p_nm 4))).p)).p)).p) sc_shut.nd)) ss_nil).cut
      (ss_cons (s_set 9 (q_callC C_row tk (hr.mono (by decide)) hG (by rfl) (a_own 0 (a_cons (p_nm 1).val (a_cons (p_nm 8).val (a_cons (q_callC C_edges tk (hr.mono (by decide)) hG (by rfl) (a_cons (p_nm 6).val a_nil) []) a_nil)))) [0]) sc_shut.nd)
      (ss_cons (s_if (t_gt (p_nm 7) (q_int).p) (ss_one (s_setLcF 9 (own := [("_law_place_here", 10)]) rfl sc_shut.nd (i_list (p_nm 9).val) (blkOk_by (by rfl)) (fun _ _ _ _ _ => (g_name 10 sc_shut.nd)) (fun _ _ _ _ _ => (ts_one (t_val (q_b1 (cr_any rfl) g_any (by rfl) B.any bt_any ((q_lc (own := [("_law_one", 11)]) rfl sc_shut.nd (i_list (p_nm 6).val) (blkOk_by (by rfl)) (fun _ _ _ _ _ => (g_name 11 sc_shut.nd)) (fun _ _ _ _ _ => ts_nil) (fun _ _ _ _ _ => (q_callC C_share takes0 (hr.mono (by decide)) hG (by rfl) (a_cons (p_nm 10).val (a_cons (p_nm 11).val a_nil)) [])))).p)))) (fun _ _ _ _ _ => (p_nm 10).val))) ss_nil).cut
      (ss_cons (s_expr (q_append 5 (a_cons (q_tup (a_cons (q_callC C_wide tk (hr.mono (by decide)) hG (by rfl) (a_own 0 a_nil) [0]) (a_cons (p_nm 9).val a_nil))) a_nil)))
      (ss_one (s_set 6 (p_nm 9).val sc_shut.nd))))))))
      (ss_one (s_ret (q_fzn 5)))))))))), fun args Q E hl h => ?_⟩
  clear hl hr hG tk hp W EX H s outer A cdv f Df B C_grains C_take C_row C_edges C_wide C_share
  obtain ⟨t, rfl, hb, h⟩ := h
  walk_at "nf"
  refine ⟨_, rfl, hb, fun gs t1 hg g1 g2 hb1 => ?_⟩
  walk_at "nf"
  refine ⟨_, _, rfl, hb1, by decide, by decide, fun a t2 a0 a1 hb2 => ?_⟩
  refine ⟨cdivS (by omega) (by omega), ?_⟩
  refine ⟨cdivS (by omega) (by omega), ?_⟩
  have q0 : 4 ≤ 24 / (1 + a) := (Int.le_ediv_iff_mul_le (by omega)).mpr (by omega)
  have q1 : 24 / (1 + a) * (1 + a) ≤ 24 := Int.ediv_mul_le _ (by omega)
  have q2 : 24 / (1 + a) ≤ 24 := Int.ediv_le_self _ (by omega)
  refine ⟨_, _, rfl, hb2, by decide, by decide, fun jx t3 j0 j1 hb3 => ?_⟩
  refine at_all (C := fun d => ∃ c : Int, d = .int c ∧ 1 ≤ c ∧ c ≤ 24 / (1 + a)) j0 j1 (by simp; omega) ?_
  rintro _ ⟨mo, rfl, mo1, mo2⟩
  walk_at "nf"
  refine ⟨_, _, rfl, hb3, by decide, by decide, fun wi t4 w0 w1 hb4 => ?_⟩
  walk_at "nf"
  refine ⟨szI (by omega), by omega, ?_⟩
  obtain ⟨kk, hkk⟩ : ∃ k : Int, k = if wi = 0 then 0 else (1 + a) - 1 := ⟨_, rfl⟩
  refine .rng [0, 5, 6, 7, 8, 9] (fun j vs => ∃ (t : T) (C : List Co) (x1 x2 x3 : Option T), vs = [some t, some (.ow .lst (C.map coD)), some (.fz (psD (psIn C (j : Nat)))), x1, x2, x3] ∧ IsBag t ∧ C.length = j ∧ (∀ c, c ∈ C → coOk c) ∧ (∀ m, m ∈ mksF C 1 → 1 < m.1 → bsF C m (m.1 - 1) ≠ []) ∧ ((totF C : Nat) : Int) ≤ (if wi < 2 then j + (if kk < j then 24 - (1 + a) else 0) else 24 / (1 + a) * j)) ⟨[_, _, _, _, _, _], rfl, _, [], _, _, _, rfl, hb4, rfl, by simp, by simp [mksF], by simp only [totF, List.map_nil, List.sum_nil]; split <;> (try split) <;> omega⟩ ?_ ?_
  · rintro j vs hj ⟨t, C, x, y, z, rfl, hb, hCl, hCo, hbo, hto⟩
    have hjm : (j : Int) < (1 + a) := by omega
    rw [Int.zero_add]
    walk_at "nf"
    refine ⟨_, _, rfl, hb, by omega, by omega, fun ct t5 ct0 ct1 hb5 => ?_⟩
    walk_at "nf"
    refine .fr [8] (fun vs => ∃ n : Int, vs = [some (.fz (.int n))] ∧ 0 ≤ n ∧ n ≤ 24 ∧ ((totF C : Nat) : Int) + n ≤ (if wi < 2 then j + 1 + (if kk < (j : Int) + 1 then 24 - (1 + a) else 0) else 24 / (1 + a) * ((j : Int) + 1))) ?_ ?_
    · walk_at "nf"
      refine ⟨fun z => ?_, fun z => ?_⟩
      · have z := of_decide_eq_true z
        rw [if_pos z] at hto
        have hw : atI [D.int 0, D.int (1 + a - 1)] wi = some (.int kk) := by
          obtain rfl | rfl : wi = 0 ∨ wi = 1 := by omega
          · rw [hkk]; exact at_int (by decide) rfl
          · rw [hkk]; exact at_int (by decide) rfl
        have hix : ∃ n : Int, atI [D.int 1, D.int (25 - (1 + a))] (if decide ((j : Int) = kk) then 1 else 0) = some (.int n) ∧ 0 ≤ n ∧ n ≤ 24 ∧ ((totF C : Nat) : Int) + n ≤ j + 1 + (if kk < (j : Int) + 1 then 24 - (1 + a) else 0) := by
          by_cases e : (j : Int) = kk
          · refine ⟨25 - (1 + a), by simp [e]; exact at_int (by decide) rfl, by omega, by omega, ?_⟩
            rw [if_neg (by omega)] at hto
            rw [if_pos (by omega)]; omega
          · refine ⟨1, by simp [e]; exact at_int (by decide) rfl, by omega, by omega, ?_⟩
            split at hto <;> split <;> omega
        obtain ⟨n, hn, n0, n1, n2⟩ := hix
        refine ⟨_, hw, .inl rfl, .int n, hn, ?_⟩
        exact ⟨[_], rfl, n, rfl, n0, n1, by rw [if_pos z]; exact n2⟩
      · have z := of_decide_eq_false z
        rw [if_neg z] at hto
        refine ⟨[_], rfl, ct, rfl, ct0, by omega, ?_⟩
        rw [if_neg z, Int.mul_add, Int.mul_one]; omega
    rintro vs ⟨n, rfl, n0, n1, hn⟩
    walk_at "nf"
    have hel := edgF_len (ps := psIn C (j : Nat))
    have hpl : (psIn C (j : Nat)).length ≤ 24 := by
      by_cases q : 1 ≤ j
      · have hj2 := List.getElem?_eq_getElem (show j - 1 < C.length by omega)
        rw [psIn_at hj2 (by omega)]
        exact (hCo _ (List.mem_of_getElem? hj2)).2.2.2
      · rw [psIn_no (by omega)]; decide
    refine ⟨psIn C (j : Nat), rfl, hpl, ?_⟩
    refine ⟨t5, gs, n, edgF (psIn C (j : Nat)), rfl, hb5, hg, g2, n0, n1, ⟨by omega, by omega⟩, fun ps t6 hps hr hpn hb6 => ?_⟩
    walk_at "nf"
    refine .fr [9] (fun vs => ∃ (ps' : List Pl), vs = [some (.fz (psD ps'))] ∧ (∀ p, p ∈ ps' → plOk p) ∧ inRow 0 ps' ∧ ps'.length ≤ ps.length ∧ (1 ≤ j → ∀ p, p ∈ ps' → (psIn C (j : Nat)).any (shB p) = true)) ?_ ?_
    · walk_at "nf"
      refine ⟨fun z => ?_, fun z => ?_⟩
      · have hpC : ∀ q, q ∈ psIn C (j : Nat) → 0 < q.w := fun q hq => by
          unfold psIn at hq
          split at hq
          · split at hq
            · rename_i c hc
              exact ((hCo _ (List.mem_of_getElem? hc)).2.1 q hq).2.1.1
            · simp at hq
          · simp at hq
        refine .over ps plD rfl (fun p => (psIn C (j : Nat)).any (shB p)) plD (fun i p hi => ?_) ?_
        · have hpp := (hps p (List.mem_of_getElem? hi)).2.1.1
          refine .each (psIn C (j : Nat)) plD rfl (fun q => .bl (shB p q)) (fun i' q hq => ⟨fun _ => ⟨p, q, rfl, by omega, hpC q (List.mem_of_getElem? hq), all_one hq, rfl⟩, fun z => nomatch z⟩) ?_
          refine ⟨(psIn C (j : Nat)).map (shB p), by rw [List.map_map]; rfl, ?_⟩
          rw [List.any_map]
          exact ⟨fun z => ⟨over_yes hi z, rfl⟩, fun z => ⟨over_no hi z, rfl⟩⟩
        exact ⟨[_], rfl, ps.filter (fun p => (psIn C (j : Nat)).any (shB p)), rfl, fun p hp => hps p (List.mem_filter.mp hp).1, inRow_filter (fun p hp => by have := (hps p hp).2.1.1; omega) hr, List.length_filter_le _ _, fun _ p hp => (List.mem_filter.mp hp).2⟩
      · have z := of_decide_eq_false z
        exact ⟨[_], rfl, ps, rfl, hps, hr, Nat.le_refl _, by omega⟩
    rintro vs ⟨ps', rfl, hps', hr', hl', hsh⟩
    walk_at "nf"
    refine ⟨rfl, t6, rfl, hb6, fun w t7 hw hb7 => ?_⟩
    refine ⟨szL (by rw [List.length_map]; omega), ?_⟩
    have e1 : psIn (C ++ [⟨w, ps'⟩]) ((j + 1 : Nat) : Int) = ps' := psIn_at (i := j) (c := ⟨w, ps'⟩) (by rw [← hCl, List.getElem?_append_right (Nat.le_refl _)]; simp) (by omega)
    refine ⟨[some t7, some (.ow .lst (C.map coD ++ [coD ⟨w, ps'⟩])), some (.fz (psD ps')), _, _, _], rfl, t7, C ++ [⟨w, ps'⟩], _, _, _, by rw [List.map_append, e1]; try rfl, hb7, by simp [hCl], fun c hc => ?_, borne_snoc hbo fun q p hp => ?_, ?_⟩
    · rcases List.mem_append.mp hc with q | q
      · exact hCo c q
      · simp at q; subst q; exact ⟨hw, hps', hr', by show ps'.length ≤ 24; omega⟩
    · rw [hCl]; exact hsh (by omega) p hp
    · rw [tot_snoc, show ((j + 1 : Nat) : Int) = (j : Int) + 1 by omega]
      have : ((totF C + (⟨w, ps'⟩ : Co).ps.length : Nat) : Int) ≤ ((totF C : Nat) : Int) + n := by show ((totF C + ps'.length : Nat) : Int) ≤ _; omega
      exact Int.le_trans this hn
  · rintro vs ⟨t, C, x, y, z, rfl, hb, hCl, hCo, hbo, hto⟩
    refine h C t ⟨by omega, hCo, ?_, hbo⟩ hb
    have : (((1 + a).toNat : Nat) : Int) = (1 + a) := by omega
    rw [this] at hto
    split at hto
    · (try split at hto) <;> omega
    · omega

theorem ok_is_lie (Df : DefAt K mg "is_lie" s_is_lie ["thing"]) (B : Bt mg) (G_LIES : GlobT K mg "LIES" ["along", "across", "either"]) : Callee P w K mg base 1 "is_lie" ["thing"] [] lieX := by
  refine callee_of Df sc_is_lie (by decide) (by decide) fun f cdv A outer s H EX W hr hG tk hp => ?_
  refine ⟨_, (ss_one (s_ret (q_and (q_isi ki_str (by rfl) B.isinstance (by rfl) B.str bt_str (p_nm 0)) (q_one (q_inGT (by rfl) G_LIES (p_nm 0)))))), fun args Q E hl h => ?_⟩
  clear hl hr hG tk hp W EX H s outer A cdv f Df B G_LIES
  obtain ⟨d, rfl, ht, h⟩ := h
  walk_at "nf"
  by_cases hs : ∃ x, d = .str x
  · obtain ⟨x, rfl⟩ := hs
    have h : Q (.fz (.bl (lieL x))) [] := h
    refine ⟨true, rfl, fun _ => ?_, fun z => nomatch z⟩
    refine ⟨_, rfl, ?_⟩
    have e : ((["along", "across", "either"] : List Str).any fun y => eqV (V.str y) (V.str x)) = lieL x := lie_any
    rw [e]
    exact h
  · have hk := ks_none ht fun x e => hs ⟨x, e⟩
    have hf : lieB d = false := by cases d <;> first | rfl | exact absurd ⟨_, rfl⟩ hs
    rw [hf] at h
    exact ⟨false, hk, fun z => (nomatch z), fun _ => h⟩
theorem ok_is_mark (Df : DefAt K mg "is_mark" s_is_mark ["thing"]) (B : Bt mg) (C_are_between : Callee P w K mg base 3 "are_between" ["things", "least", "most"] [] areS) : Callee P w K mg base 4 "is_mark" ["thing"] [] markX := by
  refine callee_of Df sc_is_mark (by decide) (by decide) fun f cdv A outer s H EX W hr hG tk hp => ?_
  refine ⟨_, (ss_one (s_ret (q_and (q_isi ki_tup (by rfl) B.isinstance (by rfl) B.tuple bt_tuple (p_nm 0)) (q_and (q_eq (hu65 hr) ((q_b1 c_lenB g_lenB (by rfl) B.len bt_len (p_nm 0))).p (q_int).p) (q_one (q_callC C_are_between tk (hr.mono (by decide)) hG (by rfl) (a_cons (p_nm 0).val (a_cons q_int (a_cons (q_glob (n := 24) (by rfl) B.g_MOST_OF_MARK) a_nil))) [])))))), fun args Q E hl h => ?_⟩
  clear hl hr hG tk hp W EX H s outer A cdv f Df B C_are_between
  obtain ⟨d, rfl, ht, h⟩ := h
  walk_at "nf"
  by_cases ht3 : ∃ ds, d = .nd .tup ds
  · obtain ⟨ds, rfl⟩ := ht3
    refine ⟨true, rfl, fun _ => ⟨.inl rfl, ?_⟩, fun z => nomatch z⟩
    simp only [tyA, Bool.and_eq_true] at ht
    refine ⟨fun z => ?_, fun z => ?_⟩
    · refine ⟨ds, 1, 24, rfl, ht.2, ?_⟩
      match ds, z, h with
      | [a, b], _, h =>
        simp only [mkB] at h
        simp only [List.all_cons, List.all_nil, Bool.and_true]
        exact h
      | [], z, _ => simp [eqD, T.d] at z
      | [_], z, _ => simp [eqD, T.d] at z
      | _ :: _ :: _ :: _, z, _ => simp [eqD, T.d] at z; omega
    · match ds, z, h with
      | [a, b], z, _ => simp [eqD, T.d] at z
      | [], _, h => exact h
      | [_], _, h => exact h
      | _ :: _ :: _ :: _, _, h => exact h
  · have hk := kt_none ht fun ds e => ht3 ⟨ds, e⟩
    refine ⟨false, hk, fun z => (nomatch z), fun _ => ?_⟩
    have : mkB d = false := by
      unfold mkB; split
      · exact absurd ⟨_, rfl⟩ ht3
      · rfl
    rw [this] at h
    exact h
theorem ok_is_place (Df : DefAt K mg "is_place" s_is_place ["thing"]) (B : Bt mg) (C_is_lie : Callee P w K mg base 1 "is_lie" ["thing"] [] lieX) (C_is_spot : Callee P w K mg base 3 "is_spot" ["thing"] [] spotS) (C_is_measure : Callee P w K mg base 3 "is_measure" ["thing"] [] measureS) (C_is_grain : Callee P w K mg base 1 "is_grain" ["thing"] [] grainX) : Callee P w K mg base 4 "is_place" ["thing"] [] placeX := by
  refine callee_of Df sc_is_place (by decide) (by decide) fun f cdv A outer s H EX W hr hG tk hp => ?_
  refine ⟨_, (ss_cons (s_if ((w_orM (t_not (t_val (q_isi ki_tup (by rfl) B.isinstance (by rfl) B.tuple bt_tuple (p_nm 0)))) (w_or1 (t_ne (hu65 hr) ((q_b1 c_lenB g_lenB (by rfl) B.len bt_len (p_nm 0))).p (q_int).p)))).t (ss_one (s_ret q_bl)) ss_nil)
      (ss_cons (s_if ((w_orM (t_not (t_val (q_callC C_is_spot tk (hr.mono (by decide)) hG (by rfl) (a_cons (q_ixA (hu65 hr) (p_nm 0) (q_int).p) a_nil) []))) (w_orM (t_not (t_val (q_callC C_is_measure tk (hr.mono (by decide)) hG (by rfl) (a_cons (q_ixA (hu65 hr) (p_nm 0) (q_int).p) a_nil) []))) (w_or1 (t_not (t_val (q_callC C_is_measure tk (hr.mono (by decide)) hG (by rfl) (a_cons (q_ixA (hu65 hr) (p_nm 0) (q_int).p) a_nil) []))))))).t (ss_one (s_ret q_bl)) ss_nil)
      (ss_cons (s_if ((w_andM (t_not (t_val (q_callC C_is_grain tk (hr.mono (by decide)) hG (by rfl) (a_cons (q_ixA (hu65 hr) (p_nm 0) (q_int).p) a_nil) []))) (w_and1 (t_not ((w_andM (t_val (q_isi ki_str (by rfl) B.isinstance (by rfl) B.str bt_str ((q_ixA (hu65 hr) (p_nm 0) (q_int).p)).p)) (w_and1 (t_eq (hu65 hr) ((q_ixA (hu65 hr) (p_nm 0) (q_int).p)).p (q_str).p)))).t)))).t (ss_one (s_ret q_bl)) ss_nil)
      (ss_one (s_ret (q_callC C_is_lie tk (hr.mono (by decide)) hG (by rfl) (a_cons (q_ixA (hu65 hr) (p_nm 0) (q_int).p) a_nil) [])))))), fun args Q E hl h => ?_⟩
  clear hl hr hG tk hp W EX H s outer A cdv f Df B C_is_lie C_is_spot C_is_measure C_is_grain
  obtain ⟨d, rfl, ⟨n, k, hg, hk⟩, h⟩ := h
  walk_at "nf"
  by_cases h5 : ∃ a b c g l, d = .nd .tup [a, b, c, g, l]
  · obtain ⟨a, b, c, g, l, rfl⟩ := h5
    have hc : ∃ m, ∀ e, e ∈ [a, b, c, g, l] → gd m k e := by
      cases n with
      | zero => have := hg.pt; simp [D.pt] at this
      | succ n => exact ⟨n, fun e he => hg.tup e he⟩
    obtain ⟨m, hc⟩ := hc
    have ga := hc a (by simp)
    have gb := hc b (by simp)
    have gc := hc c (by simp)
    have gg := hc g (by simp)
    have gl := hc l (by simp)
    have hq : plB (.nd .tup [a, b, c, g, l]) = (btB a 0 1000000 && (btB b 1 1000000 && (btB c 1 1000000 && ((grB g || emB g) && lieB l)))) := rfl
    rw [hq] at h
    refine ⟨true, rfl, false, fun _ => ⟨.inl rfl, rfl, rfl⟩, fun z => (nomatch z), fun _ => ?_⟩
    walk_at "nf"
    refine ⟨_, at_int (by decide) rfl, a, rfl, ga.ty, (!btB b 1 1000000 || !btB c 1 1000000), fun _ => ⟨_, at_int (by decide) rfl, b, rfl, gb.ty, !btB c 1 1000000, fun _ => ⟨_, at_int (by decide) rfl, c, rfl, gc.ty, rfl, rfl⟩, rfl, rfl⟩, fun z => ?_, fun z => ?_⟩
    · have e : (btB a 0 1000000 && (btB b 1 1000000 && (btB c 1 1000000 && ((grB g || emB g) && lieB l)))) = false := by
        revert z; cases btB a 0 1000000 <;> cases btB b 1 1000000 <;> cases btB c 1 1000000 <;> simp
      rw [e] at h
      exact h
    have e : btB a 0 1000000 = true ∧ btB b 1 1000000 = true ∧ btB c 1 1000000 = true := by revert z; cases btB a 0 1000000 <;> cases btB b 1 1000000 <;> cases btB c 1 1000000 <;> simp
    rw [e.1, e.2.1, e.2.2, Bool.true_and, Bool.true_and, Bool.true_and] at h
    walk_at "nf"
    refine ⟨_, at_int (by decide) rfl, g, rfl, gg.ty, fun x hx => ?_, ?_⟩
    · have := gg.sz; rw [hx, szD] at this; rw [sizeLine_eq]; rw [Str.length]; omega
    refine ⟨!emB g, fun z => ⟨_, at_int (by decide) rfl, ?_⟩, fun z => ?_, fun z => ?_⟩
    · by_cases hs : ∃ x, g = .str x
      · obtain ⟨x, rfl⟩ := hs
        refine ⟨true, rfl, decide (x = ""), fun _ => ⟨_, at_int (by decide) rfl, .inl rfl, ?_, rfl⟩, rfl, rfl⟩
        simp [eqD, T.d]
      · have hk := ks_none gg.ty fun x e => hs ⟨x, e⟩
        have hf : emB g = false := by cases g <;> first | rfl | exact absurd ⟨_, rfl⟩ hs
        rw [hf]
        exact ⟨false, hk, true, fun z => (nomatch z), rfl, rfl⟩
    · have e2 : (grB g || emB g) = false := by revert z; cases grB g <;> cases emB g <;> simp
      rw [e2, Bool.false_and] at h
      exact h
    have e2 : (grB g || emB g) = true := by revert z; cases grB g <;> cases emB g <;> simp
    rw [e2, Bool.true_and] at h
    exact ⟨_, at_int (by decide) rfl, l, rfl, gl.ty, h⟩
  · by_cases ht3 : ∃ ds, d = .nd .tup ds
    · obtain ⟨ds, rfl⟩ := ht3
      have hf : plB (.nd .tup ds) = false := by
        unfold plB; split
        · rename_i e; cases e; exact absurd ⟨_, _, _, _, _, rfl⟩ h5
        · rfl
      rw [hf] at h
      refine ⟨true, rfl, true, fun _ => ⟨.inl rfl, ?_⟩, fun z => h, fun z => nomatch z⟩
      have hl : ds.length ≠ 5 := fun e => by
        match ds, e with
        | [a, b, c, d, e], _ => exact h5 ⟨_, _, _, _, _, rfl⟩
      refine ⟨?_, rfl⟩
      simp [eqD, T.d]
      omega
    · have hk := kt_none hg.tya fun ds e => ht3 ⟨ds, e⟩
      have hf : plB d = false := by
        unfold plB; split
        · exact absurd ⟨_, rfl⟩ ht3
        · rfl
      rw [hf] at h
      exact ⟨false, hk, true, fun z => (nomatch z), fun _ => h, fun z => nomatch z⟩
theorem ok_is_course (Df : DefAt K mg "is_course" s_is_course ["thing"]) (B : Bt mg) (C_is_measure : Callee P w K mg base 3 "is_measure" ["thing"] [] measureS) (C_is_place : Callee P w K mg base 4 "is_place" ["thing"] [] placeX) : Callee P w K mg base 5 "is_course" ["thing"] [] courseX := by
  refine callee_of Df sc_is_course (by decide) (by decide) fun f cdv A outer s H EX W hr hG tk hp => ?_
  refine ⟨_, (ss_cons (s_if ((w_orM (t_not (t_val (q_isi ki_tup (by rfl) B.isinstance (by rfl) B.tuple bt_tuple (p_nm 0)))) (w_orM (t_ne (hu65 hr) ((q_b1 c_lenB g_lenB (by rfl) B.len bt_len (p_nm 0))).p (q_int).p) (w_or1 (t_not (t_val (q_callC C_is_measure tk (hr.mono (by decide)) hG (by rfl) (a_cons (q_ixA (hu65 hr) (p_nm 0) (q_int).p) a_nil) []))))))).t (ss_one (s_ret q_bl)) ss_nil)
      (ss_cons (s_if ((w_orM (t_not (t_val (q_isi ki_lst (by rfl) B.isinstance (by rfl) B.list bt_list ((q_ixA (hu65 hr) (p_nm 0) (q_int).p)).p))) (w_or1 (t_gt ((q_b1 c_lenB g_lenB (by rfl) B.len bt_len ((q_ixA (hu65 hr) (p_nm 0) (q_int).p)).p)).p ((q_glob (n := 24) (by rfl) B.g_MOST_PLACES_wall)).p)))).t (ss_one (s_ret q_bl)) ss_nil)
      (ss_one (s_ret (q_b1 (cr_all rfl) g_all (by rfl) B.all bt_all ((q_lc (own := [("place", 1)]) rfl sc_is_course.nd (i_list (q_ixA (hu65 hr) (p_nm 0) (q_int).p)) (blkOk_by (by rfl)) (fun _ _ _ _ _ => (g_name 1 sc_is_course.nd)) (fun _ _ _ _ _ => ts_nil) (fun _ _ _ _ _ => (q_callC C_is_place takes0 (hr.mono (by decide)) hG (by rfl) (a_cons (p_nm 1).val a_nil) [])))).p))))), fun args Q E hl h => ?_⟩
  clear hl hr hG tk hp W EX H s outer A cdv f Df B C_is_measure C_is_place
  obtain ⟨d, rfl, ⟨n, k, hg, hk⟩, h⟩ := h
  walk_at "nf"
  by_cases h5 : ∃ a b, d = .nd .tup [a, b]
  · obtain ⟨a, b, rfl⟩ := h5
    have hc : ∃ m, ∀ e, e ∈ [a, b] → gd m k e := by
      cases n with
      | zero => have := hg.pt; simp [D.pt] at this
      | succ n => exact ⟨n, fun e he => hg.tup e he⟩
    obtain ⟨m, hc⟩ := hc
    have ga := hc a (by simp)
    have gb := hc b (by simp)
    have hq : coB (.nd .tup [a, b]) = (btB a 1 1000000 && psB b) := rfl
    rw [hq] at h
    refine ⟨true, rfl, !btB a 1 1000000, fun _ => ⟨.inl rfl, !btB a 1 1000000, fun _ => ⟨_, at_int (by decide) rfl, a, rfl, ga.ty, rfl, rfl⟩, rfl, rfl⟩, fun z => ?_, fun z => ?_⟩
    · have e : btB a 1 1000000 = false := by revert z; cases btB a 1 1000000 <;> simp
      rw [e, Bool.false_and] at h
      exact h
    have e : btB a 1 1000000 = true := by revert z; cases btB a 1 1000000 <;> simp
    rw [e, Bool.true_and] at h
    walk_at "nf"
    by_cases hs : ∃ ds, b = .nd .lst ds
    · obtain ⟨ds, rfl⟩ := hs
      have hb : ∀ x, x ∈ ds → big x := fun x hx => by
        cases m with
        | zero => have := gb.pt; simp [D.pt] at this
        | succ m => exact ⟨m, k, gb.lst x hx, hk⟩
      refine ⟨_, at_int (by decide) rfl, true, rfl, decide ((24 : Int) < (ds.length : Nat)), fun _ => ⟨_, at_int (by decide) rfl, rfl, rfl⟩, fun z => ?_, fun z => ?_⟩
      · have z : decide ((24 : Int) < (ds.length : Nat)) = true := z
        have hf : psB (.nd .lst ds) = false := by
          have : decide ((ds.length : Int) ≤ 24) = false := decide_eq_false (by have := of_decide_eq_true z; omega)
          simp only [psB, this, Bool.false_and]
        rw [hf] at h
        exact h
      have z : decide ((24 : Int) < (ds.length : Nat)) = false := z
      walk_at "nf"
      refine ⟨_, at_int (by decide) rfl, ?_⟩
      refine .each ds (fun d => d) (List.map_id' ds).symm (fun d => .bl (plB d)) (fun j a hj => ⟨fun _ => ⟨a, rfl, hb a (List.mem_of_getElem? hj), all_one hj, rfl⟩, fun z => nomatch z⟩) ?_
      have hf : psB (.nd .lst ds) = ds.all plB := by
        have : decide ((ds.length : Int) ≤ 24) = true := decide_eq_true (by have := of_decide_eq_false z; omega)
        simp only [psB, this, Bool.true_and]
      rw [hf] at h
      refine ⟨ds.map plB, by rw [List.map_map]; rfl, ?_⟩
      rw [List.all_map]
      exact h
    · have hk := kl_none gb.ty fun x e => hs ⟨x, e⟩
      have hf : psB b = false := by
        unfold psB; split
        · exact absurd ⟨_, rfl⟩ hs
        · rfl
      rw [hf] at h
      exact ⟨_, at_int (by decide) rfl, false, hk, true, fun z => (nomatch z), fun _ => h, fun z => nomatch z⟩
  · by_cases ht3 : ∃ ds, d = .nd .tup ds
    · obtain ⟨ds, rfl⟩ := ht3
      have hf : coB (.nd .tup ds) = false := by
        unfold coB; split
        · rename_i e; cases e; exact absurd ⟨_, _, rfl⟩ h5
        · rfl
      rw [hf] at h
      have hl : ds.length ≠ 2 := fun e => by
        match ds, e with
        | [a, b], _ => exact h5 ⟨_, _, rfl⟩
      refine ⟨true, rfl, true, fun _ => ⟨.inl rfl, true, fun z => ?_, ?_, rfl⟩, fun z => h, fun z => nomatch z⟩
      · exfalso
        simp [eqD, T.d] at z
        omega
      · simp [eqD, T.d]
    · have hk := kt_none hg.tya fun ds e => ht3 ⟨ds, e⟩
      have hf : coB d = false := by
        unfold coB; split
        · exact absurd ⟨_, rfl⟩ ht3
        · rfl
      rw [hf] at h
      exact ⟨false, hk, true, fun z => (nomatch z), fun _ => h, fun z => nomatch z⟩
theorem ok_are_courses (Df : DefAt K mg "are_courses" s_are_courses ["thing"]) (B : Bt mg) (C_is_course : Callee P w K mg base 5 "is_course" ["thing"] [] courseX) : Callee P w K mg base 6 "are_courses" ["thing"] [] coursesX := by
  refine callee_of Df sc_are_courses (by decide) (by decide) fun f cdv A outer s H EX W hr hG tk hp => ?_
  refine ⟨_, (ss_cons (s_if ((w_orM (t_not (t_val (q_isi ki_lst (by rfl) B.isinstance (by rfl) B.list bt_list (p_nm 0)))) (w_or1 (t_not (t_chain op_le op_le (q_int).p ((q_b1 c_lenB g_lenB (by rfl) B.len bt_len (p_nm 0))).p ((q_glob (n := 6) (by rfl) B.g_MOST_COURSES_wall)).p))))).t (ss_one (s_ret q_bl)) ss_nil)
      (ss_one (s_ret (q_b1 (cr_all rfl) g_all (by rfl) B.all bt_all ((q_lc (own := [("course", 1)]) rfl sc_are_courses.nd (i_list (p_nm 0).val) (blkOk_by (by rfl)) (fun _ _ _ _ _ => (g_name 1 sc_are_courses.nd)) (fun _ _ _ _ _ => ts_nil) (fun _ _ _ _ _ => (q_callC C_is_course takes0 (hr.mono (by decide)) hG (by rfl) (a_cons (p_nm 1).val a_nil) [])))).p)))), fun args Q E hl h => ?_⟩
  clear hl hr hG tk hp W EX H s outer A cdv f Df B C_is_course
  obtain ⟨d, rfl, ⟨n, k, hg, hk⟩, h⟩ := h
  walk_at "nf"
  by_cases hs : ∃ ds, d = .nd .lst ds
  · obtain ⟨ds, rfl⟩ := hs
    have hc : ∀ x, x ∈ ds → big x := fun x hx => by
      cases n with
      | zero => have := hg.pt; simp [D.pt] at this
      | succ n => exact ⟨n, k, hg.lst x hx, hk⟩
    refine ⟨true, rfl, !(decide ((1 : Int) ≤ (ds.length : Nat)) && decide (((ds.length : Nat) : Int) ≤ 6)), fun _ => ⟨decide (((ds.length : Nat) : Int) ≤ 6), fun _ => ⟨rfl, rfl⟩, rfl, rfl⟩, fun z => ?_, fun z => ?_⟩
    · have hf : cosB (.nd .lst ds) = false := by
        have z2 : (decide ((1 : Int) ≤ (ds.length : Nat)) && decide (((ds.length : Nat) : Int) ≤ 6)) = false := by revert z; cases (decide ((1 : Int) ≤ (ds.length : Nat)) && decide (((ds.length : Nat) : Int) ≤ 6)) <;> simp
        simp only [cosB, z2, Bool.false_and]
      rw [hf] at h
      exact h
    have z2 : (decide ((1 : Int) ≤ (ds.length : Nat)) && decide (((ds.length : Nat) : Int) ≤ 6)) = true := by revert z; cases (decide ((1 : Int) ≤ (ds.length : Nat)) && decide (((ds.length : Nat) : Int) ≤ 6)) <;> simp
    walk_at "nf"
    refine .each ds (fun d => d) (List.map_id' ds).symm (fun d => .bl (coB d)) (fun j a hj => ⟨fun _ => ⟨a, rfl, hc a (List.mem_of_getElem? hj), all_one hj, rfl⟩, fun z => nomatch z⟩) ?_
    have hf : cosB (.nd .lst ds) = ds.all coB := by
      simp only [cosB, z2, Bool.true_and]
    rw [hf] at h
    refine ⟨ds.map coB, by rw [List.map_map]; rfl, ?_⟩
    rw [List.all_map]
    exact h
  · have hk := kl_none hg.ty fun x e => hs ⟨x, e⟩
    have hf : cosB d = false := by
      unfold cosB; split
      · exact absurd ⟨_, rfl⟩ hs
      · rfl
    rw [hf] at h
    exact ⟨false, hk, true, fun z => (nomatch z), fun _ => h, fun z => nomatch z⟩
theorem ok_need_order (Df : DefAt K mg "need_order" s_need_order ["course", "places"]) (B : Bt mg) (R_NoPlace : BareG1 P w K mg base 1 "NoPlace" (ca "NoPlace") "mark" ["self", "mark"]) : Callee P w K mg base 3 "need_order" ["course", "places"] [] (orderX ca) := by
  refine callee_of Df sc_need_order (by decide) (by decide) fun f cdv A outer s H EX W hr hG tk hp => ?_
  refine ⟨_, (ss_cons (s_set 2 q_int sc_need_order.nd)
      (ss_one (s_for hp rfl (i_enum (by rfl) B.enumerate (p_nm 1).val) (g_tup (n := 2) rfl (gs_cons (g_name 3 sc_need_order.nd) (gs_cons (g_name 4 sc_need_order.nd) gs_nil))) (ss_cons (s_if ((w_orM (t_lt ((q_ixA (hu65 hr) (p_nm 4) (q_int).p)).p (p_nm 2)) (w_or1 (t_gt ((q_add ((q_ixA (hu65 hr) (p_nm 4) (q_int).p)).p ((q_ixA (hu65 hr) (p_nm 4) (q_int).p)).p)).p ((q_glob (n := 1000000) (by rfl) B.g_FAR_wall)).p)))).t (ss_one (s_raise1 ⟨R_NoPlace.1, R_NoPlace.2, R_NoPlace.3⟩ tk rfl (hr.mono (by decide)) (by rfl) (q_tup (a_cons (p_nm 0).val (a_cons (q_add (p_nm 3) (q_int).p) a_nil))) passes0)) ss_nil)
      (ss_one (s_set 2 ((q_add ((q_ixA (hu65 hr) (p_nm 4) (q_int).p)).p ((q_ixA (hu65 hr) (p_nm 4) (q_int).p)).p)).fz sc_need_order.nd)))))), fun args Q E hl h => ?_⟩
  clear hl hr hG tk hp W EX H s outer A cdv f Df B R_NoPlace
  obtain ⟨k, ps, rfl, h1, h2⟩ := h
  walk_at "nf"
  refine .fr [2, 3, 4] (fun j vs => (∃ (x y : Option T), vs = [some (.fz (.int (endB ps j))), x, y]) ∧ ∀ i, i < j → ordB ps i = false) ⟨[_, _, _], rfl, ⟨_, _, rfl⟩, by simp⟩ ?_ ?_
  · rintro j d vs hd ⟨⟨x, y, rfl⟩, hno⟩
    obtain ⟨c, hc, rfl⟩ := enumD_get hd
    rw [List.getElem?_map] at hc
    obtain ⟨p, hp, rfl⟩ := Option.map_eq_some_iff.mp hc
    have hl := (List.getElem?_eq_some_iff.mp hp).1
    have ho : ordB ps j = (decide (p.x < endB ps j) || decide ((1000000 : Int) < p.x + p.w)) := by unfold ordB; rw [hp]
    have he : endB ps (j + 1) = p.x + p.w := by show (match ps[j]? with | some p => p.x + p.w | none => 0) = _; rw [hp]
    refine ⟨rfl, ?_⟩
    walk_at "nf"
    refine ⟨_, at_int (by decide) rfl, decide ((1000000 : Int) < p.x + p.w), fun _ => ⟨_, at_int (by decide) rfl, _, at_int (by decide) rfl, rfl, rfl⟩, fun z => ?_, fun z => ?_⟩
    · refine h1 j ?_
      unfold ordF
      exact find_first hno (ho.trans z) hl
    refine ⟨_, at_int (by decide) rfl, _, at_int (by decide) rfl, ?_⟩
    refine ⟨[_, _, _], rfl, ⟨_, _, by rw [he]; try exact rfl⟩, fun i hi => ?_⟩
    rcases Nat.lt_or_eq_of_le (Nat.lt_succ_iff.mp hi) with r | r
    · exact hno i r
    · subst r; exact ho.trans z
  · rintro vs ⟨⟨x, y, rfl⟩, hno⟩
    rw [enumD_len, List.length_map] at hno
    exact h2 (find_none hno)
theorem ok_Wall_place_kept (Df : DefM K (ca "Wall") "place_kept" "Wall.place_kept" s_Wall_place_kept ["self", "mark"]) (B : Bt mg) (KC_Wall : Cls K (ca "Wall")) (KN_Wall : ∀ x, x ∈ (["kept_courses"] : List Str) → NoAttr K (ca "Wall") x) (R_NoMark : BareG1 P w K mg base 1 "NoMark" (ca "NoMark") "mark" ["self", "mark"]) (R_Wrong : BareG1 P w K mg base 1 "Wrong" (ca "Wrong") "at" ["self", "at"]) (C_Wall_places_in : CalleeM P w K mg base 1 (ca "Wall") "places_in" ["self", "course"] [] (placesW ca)) (C_is_mark : Callee P w K mg base 4 "is_mark" ["thing"] [] markX) : CalleeM P w K mg base 5 (ca "Wall") "place_kept" ["self", "mark"] [] (keptX ca) := by
  refine calleeM_of Df sc_Wall_place_kept (by decide) (by decide) fun f cdv A outer s H EX W hr hG tk hp => ?_
  refine ⟨_, (ss_cons (s_if (t_not (t_val (q_callC C_is_mark tk (hr.mono (by decide)) hG (by rfl) (a_cons (p_nm 1).val a_nil) []))) (ss_one (s_raise1 ⟨R_Wrong.1, R_Wrong.2, R_Wrong.3⟩ tk rfl (hr.mono (by decide)) (by rfl) q_int passes0)) ss_nil)
      (ss_cons (s_set 2 (q_meth C_Wall_places_in KC_Wall tk (hr.mono (by decide)) hG (p_nm 0).val (a_cons (q_ixA (hu65 hr) (p_nm 1) (q_int).p) a_nil) []) sc_Wall_place_kept.nd)
      (ss_cons (s_if (t_gt ((q_ixA (hu65 hr) (p_nm 1) (q_int).p)).p ((q_b1 c_lenB g_lenB (by rfl) B.len bt_len (p_nm 2))).p) (ss_one (s_raise1 ⟨R_NoMark.1, R_NoMark.2, R_NoMark.3⟩ tk rfl (hr.mono (by decide)) (by rfl) (p_nm 1).val passes0)) ss_nil)
      (ss_one (s_ret (q_ixA (hu65 hr) (p_nm 2) ((q_sub ((q_ixA (hu65 hr) (p_nm 1) (q_int).p)).p (q_int).p)).p)))))), fun args Q E hl h => ?_⟩
  clear hl hr hG tk hp W EX H s outer A cdv f Df B KC_Wall KN_Wall R_NoMark R_Wrong C_Wall_places_in C_is_mark
  obtain ⟨C, d, rfl, ht, h⟩ := h
  walk_at "nf"
  refine ⟨d, rfl, ht, fun z => ?_, fun z => ?_⟩
  · have e : mkB d = false := by simpa using z
    rcases h with ⟨_, h⟩ | ⟨m, rfl, hm, _⟩
    · exact h
    · rw [mk_okB hm] at e; cases e
  have e : mkB d = true := by simpa using z
  rcases h with ⟨e2, _⟩ | ⟨m, rfl, hm, h⟩
  · rw [e] at e2; cases e2
  obtain ⟨hm1, hm2⟩ := hm
  walk_at "nf"
  refine ⟨⟨rfl, rfl⟩, _, at_int (by decide) rfl, C, m.1, rfl, ?_⟩
  walk_at "nf"
  refine ⟨_, at_int (by decide) rfl, fun z => ?_, fun z => ?_⟩
  · have z : decide (((((psIn C m.1).map plD).length : Nat) : Int) < m.2) = true := z
    rw [decide_eq_true_eq, List.length_map] at z
    have e3 : plAt C m = none := List.getElem?_eq_none (by omega)
    rcases h with ⟨_, h⟩ | ⟨p, hp, _⟩
    · exact h
    · rw [e3] at hp; cases hp
  · have z : decide (((((psIn C m.1).map plD).length : Nat) : Int) < m.2) = false := z
    rw [decide_eq_false_iff_not, List.length_map] at z
    have hl : (m.2 - 1).toNat < (psIn C m.1).length := by omega
    have e3 : plAt C m = some (psIn C m.1)[(m.2 - 1).toNat] := List.getElem?_eq_getElem hl
    rcases h with ⟨hn, _⟩ | ⟨p, hp, h⟩
    · rw [e3] at hn; cases hn
    · exact ⟨_, at_int (by decide) rfl, plD p, at_int (by omega) (by rw [List.getElem?_map]; exact congrArg (Option.map plD) hp), h⟩
theorem ok_Wall_need (Df : DefM K (ca "Wall") "need" "Wall.need" s_Wall_need ["self", "mark"]) (KC_Wall : Cls K (ca "Wall")) (KN_Wall : ∀ x, x ∈ (["kept_courses"] : List Str) → NoAttr K (ca "Wall") x) (C_Wall_place_kept : CalleeM P w K mg base 5 (ca "Wall") "place_kept" ["self", "mark"] [] (keptX ca)) : CalleeM P w K mg base 6 (ca "Wall") "need" ["self", "mark"] [] (needX ca) := by
  refine calleeM_of Df sc_Wall_need (by decide) (by decide) fun f cdv A outer s H EX W hr hG tk hp => ?_
  refine ⟨_, (ss_cons (s_set 2 (q_meth C_Wall_place_kept KC_Wall tk (hr.mono (by decide)) hG (p_nm 0).val (a_cons (p_nm 1).val a_nil) []) sc_Wall_need.nd)
      (ss_one (s_ret (q_tup (a_cons (q_ixA (hu65 hr) (p_nm 2) (q_int).p) (a_cons (q_ixA (hu65 hr) (p_nm 2) (q_int).p) (a_cons (q_ixA (hu65 hr) ((q_ixA (hu65 hr) ((q_fld KC_Wall (KN_Wall _ (by simp)) (p_nm 0))).p ((q_sub ((q_ixA (hu65 hr) (p_nm 1) (q_int).p)).p (q_int).p)).p)).p (q_int).p) (a_cons (q_ixA (hu65 hr) (p_nm 2) (q_int).p) (a_cons (q_ixA (hu65 hr) (p_nm 2) (q_int).p) a_nil))))))))), fun args Q E hl h => ?_⟩
  clear hl hr hG tk hp W EX H s outer A cdv f Df KC_Wall KN_Wall C_Wall_place_kept
  obtain ⟨C, d, rfl, ht, h⟩ := h
  walk_at "nf"
  refine ⟨⟨rfl, rfl⟩, C, d, rfl, ht, mkIx_imp h (fun x => x) fun m p e hm hp hr => ?_⟩
  subst e
  obtain ⟨i, j, c, hi, hj, hm1, hm2⟩ := plAt_ex hm hp
  unfold needD at hr
  rw [show (m.1 - 1).toNat = i by omega, hi] at hr
  walk_at "nf"
  refine ⟨_, at_int (by decide) rfl, _, at_int (by decide) rfl, rfl, _, rfl, _, at_int (by decide) rfl, coD c, at_int (by omega) (by rw [show (m.1 - 1).toNat = i by omega, List.getElem?_map, hi]; rfl), _, at_int (by decide) rfl, _, at_int (by decide) rfl, _, at_int (by decide) rfl, hr⟩
theorem ok_Wall_sharing (Df : DefM K (ca "Wall") "sharing" "Wall.sharing" s_Wall_sharing ["self", "mark", "course"]) (B : Bt mg) (KC_Wall : Cls K (ca "Wall")) (KN_Wall : ∀ x, x ∈ (["kept_courses"] : List Str) → NoAttr K (ca "Wall") x) (C_Wall_place_kept : CalleeM P w K mg base 5 (ca "Wall") "place_kept" ["self", "mark"] [] (keptX ca)) (C_spans_share : Callee P w K mg base 1 "spans_share" ["place", "other"] [] shareS) (C_Wall_places_in : CalleeM P w K mg base 1 (ca "Wall") "places_in" ["self", "course"] [] (placesW ca)) : CalleeM P w K mg base 6 (ca "Wall") "sharing" ["self", "mark", "course"] [] (sharingX ca) := by
  refine calleeM_of Df sc_Wall_sharing (by decide) (by decide) fun f cdv A outer s H EX W hr hG tk hp => ?_
  refine ⟨_, (ss_cons (s_set 3 (q_meth C_Wall_place_kept KC_Wall tk (hr.mono (by decide)) hG (p_nm 0).val (a_cons (p_nm 1).val a_nil) []) sc_Wall_sharing.nd)
      (ss_one (s_ret ((q_lc (own := [("k", 4), ("other", 5)]) rfl sc_Wall_sharing.nd (i_enum (by rfl) B.enumerate (q_meth C_Wall_places_in KC_Wall tk (hr.mono (by decide)) hG (p_nm 0).val (a_cons (p_nm 2).val a_nil) [])) (blkOk_by (by rfl)) (fun _ _ _ _ _ => (g_tup (n := 2) rfl (gs_cons (g_name 4 sc_Wall_sharing.nd) (gs_cons (g_name 5 sc_Wall_sharing.nd) gs_nil)))) (fun _ _ _ _ _ => (ts_one (t_val (q_callC C_spans_share takes0 (hr.mono (by decide)) hG (by rfl) (a_cons (p_nm 3).val (a_cons (p_nm 5).val a_nil)) [])))) (fun _ _ _ _ _ => (q_tup (a_cons (p_nm 2).val (a_cons (q_add (p_nm 4) (q_int).p) a_nil)))))).fz))), fun args Q E hl h => ?_⟩
  clear hl hr hG tk hp W EX H s outer A cdv f Df B KC_Wall KN_Wall C_Wall_place_kept C_spans_share C_Wall_places_in
  obtain ⟨C, m, k, p, rfl, hm, e2, h⟩ := h
  unfold bsF at h
  rw [e2] at h
  walk_at "nf"
  refine ⟨⟨rfl, rfl⟩, C, mkD m, rfl, rfl, .inr ⟨m, rfl, hm, .inr ⟨p, e2, ?_⟩⟩⟩
  walk_at "nf"
  refine ⟨⟨rfl, rfl⟩, C, k, rfl, ?_⟩
  refine .over (List.range (psIn C k).length) (fun j => .nd .tup [.int (j : Nat), atP (psIn C k) j]) enum_ps (fun j => match (psIn C k)[j]? with | some q => shB p q | none => false) (fun j => mkD (k, ((j : Nat) : Int) + 1)) (fun j i hj => ?_) ?_
  · have hi := List.mem_range.mp (List.mem_of_getElem? hj)
    have hq := List.getElem?_eq_getElem hi
    refine ⟨rfl, ?_⟩
    have ea : atP (psIn C k) i = plD ((psIn C k)[i]) := by unfold atP; rw [hq]
    rw [ea]
    exact ⟨p, _, rfl, fun z => ⟨over_yes hj (by rw [hq]; exact z), rfl⟩, fun z => ⟨over_no hj (by simp only [hq]; exact z), rfl⟩⟩
  unfold shF at h
  first | rw [mksD, List.map_map] at h | rw [List.map_map] at h
  exact h
theorem ok_Wall_beneath (Df : DefM K (ca "Wall") "beneath" "Wall.beneath" s_Wall_beneath ["self", "mark"]) (KC_Wall : Cls K (ca "Wall")) (KN_Wall : ∀ x, x ∈ (["kept_courses"] : List Str) → NoAttr K (ca "Wall") x) (C_Wall_place_kept : CalleeM P w K mg base 5 (ca "Wall") "place_kept" ["self", "mark"] [] (keptX ca)) (C_Wall_sharing : CalleeM P w K mg base 6 (ca "Wall") "sharing" ["self", "mark", "course"] [] (sharingX ca)) : CalleeM P w K mg base 7 (ca "Wall") "beneath" ["self", "mark"] [] (beneathX ca) := by
  refine calleeM_of Df sc_Wall_beneath (by decide) (by decide) fun f cdv A outer s H EX W hr hG tk hp => ?_
  refine ⟨_, (ss_cons (s_expr (q_meth C_Wall_place_kept KC_Wall tk (hr.mono (by decide)) hG (p_nm 0).val (a_cons (p_nm 1).val a_nil) []))
      (ss_one (s_ret (q_meth C_Wall_sharing KC_Wall tk (hr.mono (by decide)) hG (p_nm 0).val (a_cons (p_nm 1).val (a_cons (q_sub ((q_ixA (hu65 hr) (p_nm 1) (q_int).p)).p (q_int).p) a_nil)) [])))), fun args Q E hl h => ?_⟩
  clear hl hr hG tk hp W EX H s outer A cdv f Df KC_Wall KN_Wall C_Wall_place_kept C_Wall_sharing
  obtain ⟨C, d, rfl, ht, h⟩ := h
  walk_at "nf"
  refine ⟨⟨rfl, rfl⟩, C, d, rfl, ht, mkIx_imp h (fun x => x) fun m p e hm hp hr => ?_⟩
  subst e
  walk_at "nf"
  exact ⟨⟨rfl, rfl⟩, _, at_int (by decide) rfl, C, m, m.1 - 1, p, rfl, hm, hp, hr⟩
theorem ok_Wall_upon (Df : DefM K (ca "Wall") "upon" "Wall.upon" s_Wall_upon ["self", "mark"]) (KC_Wall : Cls K (ca "Wall")) (KN_Wall : ∀ x, x ∈ (["kept_courses"] : List Str) → NoAttr K (ca "Wall") x) (C_Wall_place_kept : CalleeM P w K mg base 5 (ca "Wall") "place_kept" ["self", "mark"] [] (keptX ca)) (C_Wall_sharing : CalleeM P w K mg base 6 (ca "Wall") "sharing" ["self", "mark", "course"] [] (sharingX ca)) : CalleeM P w K mg base 7 (ca "Wall") "upon" ["self", "mark"] [] (uponX ca) := by
  refine calleeM_of Df sc_Wall_upon (by decide) (by decide) fun f cdv A outer s H EX W hr hG tk hp => ?_
  refine ⟨_, (ss_cons (s_expr (q_meth C_Wall_place_kept KC_Wall tk (hr.mono (by decide)) hG (p_nm 0).val (a_cons (p_nm 1).val a_nil) []))
      (ss_one (s_ret (q_meth C_Wall_sharing KC_Wall tk (hr.mono (by decide)) hG (p_nm 0).val (a_cons (p_nm 1).val (a_cons (q_add ((q_ixA (hu65 hr) (p_nm 1) (q_int).p)).p (q_int).p) a_nil)) [])))), fun args Q E hl h => ?_⟩
  clear hl hr hG tk hp W EX H s outer A cdv f Df KC_Wall KN_Wall C_Wall_place_kept C_Wall_sharing
  obtain ⟨C, d, rfl, ht, h⟩ := h
  walk_at "nf"
  refine ⟨⟨rfl, rfl⟩, C, d, rfl, ht, mkIx_imp h (fun x => x) fun m p e hm hp hr => ?_⟩
  subst e
  walk_at "nf"
  exact ⟨⟨rfl, rfl⟩, _, at_int (by decide) rfl, C, m, m.1 + 1, p, rfl, hm, hp, hr⟩
theorem ok_Wall_init (Df : DefK K mg "Wall" (ca "Wall") "Wall.__init__" s_Wall_init ["self", "courses"]) (B : Bt mg) (KC_Wall : Cls K (ca "Wall")) (KN_Wall : ∀ x, x ∈ (["kept_courses"] : List Str) → NoAttr K (ca "Wall") x) (R_TooMany : BareG1 P w K mg base 1 "TooMany" (ca "TooMany") "most" ["self", "most"]) (R_Unborne : BareG1 P w K mg base 1 "Unborne" (ca "Unborne") "mark" ["self", "mark"]) (R_Wrong : BareG1 P w K mg base 1 "Wrong" (ca "Wrong") "at" ["self", "at"]) (C_Wall_marks : CalleeM P w K mg base 1 (ca "Wall") "marks" ["self"] [] (marksW ca)) (C_are_courses : Callee P w K mg base 6 "are_courses" ["thing"] [] coursesX) (C_need_order : Callee P w K mg base 3 "need_order" ["course", "places"] [] (orderX ca)) (C_Wall_beneath : CalleeM P w K mg base 7 (ca "Wall") "beneath" ["self", "mark"] [] (beneathX ca)) : CalleeK P w K mg base 8 "Wall" (ca "Wall") ["self", "courses"] (initX ca) := by
  refine calleeK_of Df sc_Wall_init (by decide) (by decide) fun f cdv A outer s H EX W hr hG tk hp => ?_
  refine ⟨_, (ss_cons (s_if (t_not (t_val (q_callC C_are_courses tk (hr.mono (by decide)) hG (by rfl) (a_cons (p_nm 1).val a_nil) []))) (ss_one (s_raise1 ⟨R_Wrong.1, R_Wrong.2, R_Wrong.3⟩ tk rfl (hr.mono (by decide)) (by rfl) q_int passes0)) ss_nil)
      (ss_cons (s_for hp rfl (i_enum (by rfl) B.enumerate (p_nm 1).val) (g_tup (n := 2) rfl (gs_cons (g_name 2 sc_Wall_init.nd) (gs_cons (g_name 3 sc_Wall_init.nd) gs_nil))) (ss_one (s_expr (q_callC C_need_order tk (hr.mono (by decide)) hG (by rfl) (a_cons (q_add (p_nm 2) (q_int).p) (a_cons (q_ixA (hu65 hr) (p_nm 3) (q_int).p) a_nil)) []))))
      (ss_cons (s_if (t_gt ((q_b1 (cr_sum rfl) g_sum (by rfl) B.sum bt_sum ((q_lc (own := [("course", 3)]) rfl sc_Wall_init.nd (i_list (p_nm 1).val) (blkOk_by (by rfl)) (fun _ _ _ _ _ => (g_name 3 sc_Wall_init.nd)) (fun _ _ _ _ _ => ts_nil) (fun _ _ _ _ _ => (q_b1 c_lenB g_lenB (by rfl) B.len bt_len ((q_ixA (hu65 hr) (p_nm 3) (q_int).p)).p)))).p)).p ((q_glob (n := 24) (by rfl) B.g_MOST_PLACES_wall)).p) (ss_one (s_raise1 ⟨R_TooMany.1, R_TooMany.2, R_TooMany.3⟩ tk rfl (hr.mono (by decide)) (by rfl) (q_glob (n := 24) (by rfl) B.g_MOST_PLACES_wall) passes0)) ss_nil)
      (ss_cons (s_fld 0 KC_Wall (KN_Wall _ (by simp)) ((q_lc (own := [("course", 3)]) rfl sc_Wall_init.nd (i_list (p_nm 1).val) (blkOk_by (by rfl)) (fun _ _ _ _ _ => (g_name 3 sc_Wall_init.nd)) (fun _ _ _ _ _ => ts_nil) (fun _ _ _ _ _ => (q_tup (a_cons (q_ixA (hu65 hr) (p_nm 3) (q_int).p) (a_cons ((q_ty1 call_list_of g_list (by rfl) B.list bt_list ((q_ixA (hu65 hr) (p_nm 3) (q_int).p)).p)).fz a_nil)))))).fz)
      (ss_one (s_for hp rfl (i_list (q_meth0 C_Wall_marks KC_Wall tk (hr.mono (by decide)) hG (q_fzn 0))) (g_name 4 sc_Wall_init.nd) (ss_one (s_if ((w_andM (t_gt ((q_ixA (hu65 hr) (p_nm 4) (q_int).p)).p (q_int).p) (w_and1 (t_eq (hu65 hr) ((q_meth C_Wall_beneath KC_Wall tk (hr.mono (by decide)) hG (q_fzn 0) (a_cons (p_nm 4).val a_nil) [])).p ((q_lst a_nil)).p)))).t (ss_one (s_raise1 ⟨R_Unborne.1, R_Unborne.2, R_Unborne.3⟩ tk rfl (hr.mono (by decide)) (by rfl) (p_nm 4).val passes0)) ss_nil)))))))), fun args Q E hl h => ?_⟩
  clear hl hr hG tk hp W EX H s outer A cdv f Df B KC_Wall KN_Wall R_TooMany R_Unborne R_Wrong C_Wall_marks C_are_courses C_need_order C_Wall_beneath
  obtain ⟨d, rfl, hd, h⟩ := h
  walk_at "nf"
  refine ⟨d, rfl, hd, fun z => ?_, fun z => ?_⟩
  · have e : cosB d = false := by simpa using z
    rcases h with ⟨_, h⟩ | ⟨C, rfl, hC, _⟩
    · exact h _
    · rw [cos_okB hC] at e; cases e
  have e : cosB d = true := by simpa using z
  rcases h with ⟨e2, _⟩ | ⟨C, rfl, hC, hplace, hmany, hunb, h⟩
  · rw [e] at e2; cases e2
  clear e z
  walk_at "nf"
  refine .fr [2, 3] (fun j vs => (∃ x y, vs = [x, y]) ∧ ∀ m, m ∈ mksF (C.take j) 1 → badM C m = false) ⟨[_, _], rfl, ⟨_, _, rfl⟩, by simp [mksF]⟩ ?_ ?_
  · rintro j d vs hd ⟨⟨x, y, rfl⟩, hno⟩
    obtain ⟨e, he, rfl⟩ := enumD_get hd
    rw [List.getElem?_map] at he
    obtain ⟨c, hc, rfl⟩ := Option.map_eq_some_iff.mp he
    refine ⟨rfl, ?_⟩
    walk_at "nf"
    refine ⟨_, at_int (by decide) rfl, (j : Int) + 1, c.ps, rfl, fun i hi => ?_, fun hi => ?_⟩
    · exact hplace _ (du_place hc hno hi) _
    · exact ⟨[_, _], rfl, ⟨_, _, rfl⟩, place_none hc hno hi⟩
  rintro vs ⟨⟨x, y, rfl⟩, hno⟩
  rw [enumD_len, List.length_map, List.take_length] at hno
  walk_at "nf"
  refine .each C coD rfl (fun c => .int ((c.ps.map plD).length : Nat)) (fun j a hj => ⟨fun _ => ⟨_, at_int (by decide) rfl, all_one hj, rfl⟩, fun z => nomatch z⟩) ?_
  have em : (C.map fun c => (((c.ps.map plD).length : Nat) : Int)).sum = ((totF C : Nat) : Int) := by unfold totF; simp [tot_cast]
  refine ⟨C.map fun c => (((c.ps.map plD).length : Nat) : Int), by rw [List.map_map]; rfl, ?_⟩
  rw [em]
  have hnp : (mksF C 1).find? (badM C) = none := List.find?_eq_none.mpr fun m hm => by rw [hno m hm]; decide
  refine ⟨fun z => ?_, fun z => ?_⟩
  · have z : decide ((24 : Int) < ((totF C : Nat) : Int)) = true := z
    rw [decide_eq_true_eq] at z
    refine hmany ?_ _
    unfold duW
    rw [hnp]
    exact if_pos (by omega)
  have z : decide ((24 : Int) < ((totF C : Nat) : Int)) = false := z
  rw [decide_eq_false_iff_not] at z
  have hpre := pre_ok hC hno (by omega)
  have hdu : duW C = match (mksF C 1).find? (fun m => decide (1 < m.1) && (bsF C m (m.1 - 1)).isEmpty) with | some m => .unb m | none => .told := by
    unfold duW
    rw [hnp]
    exact if_neg (by omega)
  walk_at "nf"
  refine .each C coD rfl coD (fun j a hj => ⟨fun _ => ⟨_, at_int (by decide) rfl, _, at_int (by decide) rfl, all_one hj, rfl⟩, fun z => nomatch z⟩) ?_
  refine ⟨rfl, show (0 : Nat) < 1000 by decide, ?_⟩
  walk_at "nf"
  refine ⟨⟨rfl, rfl⟩, C, rfl, by omega, ?_⟩
  refine .over (mksF C 1) mkD rfl [4] (fun j vs => (∃ y, vs = [y]) ∧ ∀ (i : Nat) (x : Mk), i < j → (mksF C 1)[i]? = some x → (decide (1 < x.1) && (bsF C x (x.1 - 1)).isEmpty) = false) ⟨[_], rfl, ⟨_, rfl⟩, by simp⟩ ?_ ?_
  · rintro j m vs hj ⟨⟨y, rfl⟩, hun⟩
    have hm := List.mem_of_getElem? hj
    have hbm := pre_bd hpre hm
    obtain ⟨p, hp⟩ := Option.ne_none_iff_exists'.mp (mem_plAt hm)
    have eqn : eqD (mksD (bsF C m (m.1 - 1))) (.nd .lst []) = (bsF C m (m.1 - 1)).isEmpty := by rw [eq_nil]; simp
    walk_at "nf"
    refine ⟨_, at_int (by decide) rfl, eqD (mksD (bsF C m (m.1 - 1))) (.nd .lst []), fun z => ⟨⟨rfl, rfl⟩, C, mkD m, rfl, rfl, .inr ⟨m, rfl, hbm, .inr ⟨p, hp, .inr ⟨pl_mks, rfl⟩, rfl, rfl⟩⟩⟩, fun z => ?_, fun z => ?_⟩
    · have z : (decide ((1 : Int) < m.1) && eqD (mksD (bsF C m (m.1 - 1))) (.nd .lst [])) = true := z
      rw [eqn] at z
      refine hunb m ?_ _
      rw [hdu, find_at hj z hun]
    · have z : (decide ((1 : Int) < m.1) && eqD (mksD (bsF C m (m.1 - 1))) (.nd .lst [])) = false := z
      rw [eqn] at z
      refine ⟨[_], rfl, ⟨_, rfl⟩, fun i x hi hx => ?_⟩
      rcases Nat.lt_or_eq_of_le (Nat.lt_succ_iff.mp hi) with r | r
      · exact hun i x r hx
      · subst r; rw [hj] at hx; cases hx; exact z
  · rintro vs ⟨⟨y, rfl⟩, hun⟩
    have hun2 : ∀ m, m ∈ mksF C 1 → (decide (1 < m.1) && (bsF C m (m.1 - 1)).isEmpty) = false := fun m hm => by
      obtain ⟨i, hi⟩ := List.getElem?_of_mem hm
      exact hun i m (List.getElem?_eq_some_iff.mp hi).1 hi
    refine h ?_ ?_
    · rw [hdu, List.find?_eq_none.mpr fun m hm => by rw [hun2 m hm]; decide]
    · refine ⟨hpre.1, hpre.2.1, hpre.2.2, fun m hm h1 e => ?_⟩
      have := hun2 m hm
      rw [e, decide_eq_true h1] at this
      cases this
theorem ok_whole_in (Df : DefAt K mg "whole_in" s_whole_in ["word"]) (B : Bt mg) : Callee P w K mg base 1 "whole_in" ["word"] [] wholeInS := by
  refine callee_of Df sc_whole_in (by decide) (by decide) fun f cdv A outer s H EX W hr hG tk hp => ?_
  refine ⟨_, (ss_cons (s_if ((w_or (t_eq (hu65 hr) (p_nm 0) (q_str).p) (w_or (t_gt ((q_b1 c_lenB g_lenB (by rfl) B.len bt_len (p_nm 0))).p ((q_glob (n := 22) (by rfl) B.g_MOST_FIGURES)).p) (w_or1 ((w_and (t_eq (hu65 hr) ((q_ixA (hu65 hr) (p_nm 0) (q_int).p)).p (q_str).p) (w_and1 (t_gt ((q_b1 c_lenB g_lenB (by rfl) B.len bt_len (p_nm 0))).p (q_int).p)))).t)))).t (ss_one (s_ret q_non)) ss_nil).cut
      (ss_cons (s_for hp rfl (i_str (p_nm 0).val) (g_name 1 sc_whole_in.nd) (ss_one (s_if (t_niA (hu65 hr) (p_nm 1) ((q_globS (s := "0123456789") (by rfl) B.g_FIGURES)).p) (ss_one (s_ret q_non)) ss_nil)))
      (ss_one (s_ret (q_intS (by rfl) B.int (p_nm 0)))))), fun args Q E hl h => ?_⟩
  clear hl hr hG tk hp W EX H s outer A cdv f Df B
  obtain ⟨x, rfl, hz, h⟩ := h
  walk_at "nf"
  have hz2 : x.length ≤ sizeLine := szN (Nat.le_trans hz (by decide))
  have bad : (TL.tl x = [] ∨ 22 < x.length ∨ ((TL.tl x).head? = some 48 ∧ 1 < x.length) ∨ digL (TL.tl x) = false) → Q (.fz .non) [] := fun q => by
    unfold whF at h
    rw [if_pos q] at h
    exact h
  refine .mk ⟨fun e => e = [some (.fz (.str x)), none] ∧ ¬ (TL.tl x = [] ∨ 22 < x.length ∨ ((TL.tl x).head? = some 48 ∧ 1 < x.length)), ?_, ?_⟩
  · refine ⟨.inl rfl, fun z => ⟨fun _ => bad (.inl ?_), fun z => nomatch z⟩, fun z => ⟨hz2, fun z2 => ⟨fun _ => bad (.inr (.inl ?_)), fun z => nomatch z⟩, fun z2 => ?_⟩⟩
    · rw [str_eq z]; rfl
    · have := of_decide_eq_true z2; omega
    have n1 : TL.tl x ≠ [] := fun e => str_ne z (TL.ext_tl e)
    have n2 : ¬ 22 < x.length := by have := of_decide_eq_false z2; omega
    obtain ⟨c, r, e⟩ : ∃ c r, TL.tl x = c :: r := by
      cases q : TL.tl x with
      | nil => exact absurd q n1
      | cons c r => exact ⟨c, r, rfl⟩
    refine ⟨hz2, c, by show atI (TL.tl x) 0 = some c; rw [e]; exact at_int (Int.le_refl 0) rfl, .inl rfl, fun z3 => ?_, fun z3 => ?_⟩
    · refine ⟨hz2, fun z4 => bad (.inr (.inr (.inl ⟨by rw [e, ch_eq z3]; rfl, ?_⟩))), fun z4 => ⟨rfl, ?_⟩⟩
      · have := of_decide_eq_true z4; omega
      · rintro (q | q | ⟨q, q2⟩)
        · exact n1 q
        · exact n2 q
        · have := of_decide_eq_false z4; omega
    · refine ⟨fun z => (nomatch z), fun _ => ⟨rfl, ?_⟩⟩
      rintro (q | q | ⟨q, q2⟩)
      · exact n1 q
      · exact n2 q
      · rw [e] at q
        have : c = 48 := by simpa using q
        subst this
        exact ch_ne (c := 48) z3 rfl
  rintro e ⟨rfl, hn⟩
  walk_at "nf"
  refine ⟨hz2, ?_⟩
  refine .over (TL.tl x) (fun c => .str ⟨#[c]⟩) rfl [1] (fun j vs => ∃ y, vs = [y] ∧ digL ((TL.tl x).take j) = true) ⟨[_], rfl, _, rfl, rfl⟩ ?_ ?_
  · rintro j c vs hj ⟨y, rfl, hk⟩
    refine ⟨c, rfl, fun z => bad (.inr (.inr (.inr ?_))), fun z => ?_⟩
    · unfold digL
      rw [List.all_eq_false]
      refine ⟨c, List.mem_of_getElem? hj, fun q => ?_⟩
      have q2 : c ∈ TL.tl "0123456789" := fig_mem q
      have z2 : (!decide (c ∈ TL.tl "0123456789")) = true := z
      rw [decide_eq_true q2] at z2
      cases z2
    · refine ⟨[_], rfl, _, rfl, ?_⟩
      have z2 : (!decide (c ∈ TL.tl "0123456789")) = false := z
      have z3 : c ∈ TL.tl "0123456789" := by
        cases q : decide (c ∈ TL.tl "0123456789")
        · rw [q] at z2; cases z2
        · exact of_decide_eq_true q
      unfold digL at hk ⊢
      rw [List.take_add_one, hj, List.all_append, hk]
      simp only [Option.toList_some, List.all_cons, List.all_nil, mem_fig z3]
      rfl
  · rintro vs ⟨y, rfl, hk⟩
    rw [List.take_length] at hk
    have hn2 : ¬ (TL.tl x = [] ∨ 22 < x.length ∨ ((TL.tl x).head? = some 48 ∧ 1 < x.length) ∨ digL (TL.tl x) = false) := by
      rintro (q | q | q | q)
      · exact hn (.inl q)
      · exact hn (.inr (.inl q))
      · exact hn (.inr (.inr q))
      · rw [hk] at q; cases q
    unfold whF at h
    rw [if_neg hn2] at h
    have l22 : x.length ≤ 22 := Nat.le_of_not_lt fun q => hn (.inr (.inl q))
    exact ⟨x, _, rfl, HandSX_int hk (fun q => hn (.inl q)) (by omega), by omega, h⟩
theorem ok_show_joints (Df : DefAt K mg "show_joints" s_show_joints ["joints"]) (B : Bt mg) : Callee P w K mg base 1 "show_joints" ["joints"] [] shjS := by
  refine callee_of Df sc_show_joints (by decide) (by decide) fun f cdv A outer s H EX W hr hG tk hp => ?_
  refine ⟨_, (ss_cons (s_if (t_eq (hu65 hr) (p_nm 0) ((q_lst a_nil)).p) (ss_one (s_ret q_str)) ss_nil)
      (ss_one (s_ret (q_join q_str ((q_lc (own := [("spot", 1)]) rfl sc_show_joints.nd (i_list (p_nm 0).val) (blkOk_by (by rfl)) (fun _ _ _ _ _ => (g_name 1 sc_show_joints.nd)) (fun _ _ _ _ _ => ts_nil) (fun _ _ _ _ _ => (q_ty1 call_str_int g_strI (by rfl) B.str bt_str (p_nm 1))))).p)))), fun args Q E hl h => ?_⟩
  clear hl hr hG tk hp W EX H s outer A cdv f Df B
  obtain ⟨xs, rfl, hx, h⟩ := h
  walk_at "nf"
  have hp := (sml_ints (n := 63) hx.2 hx.1).1
  refine ⟨.inr ⟨hp, by decide⟩, fun z => ?_, fun z => ?_⟩
  · have e : xs = [] := by
      cases xs with
      | nil => rfl
      | cons a r => simp [eqD, eqDs, T.d] at z
    subst e
    exact h
  have e : xs ≠ [] := fun e => by subst e; simp [eqD, eqDs, T.d] at z
  refine .each xs D.int rfl (fun i => D.str (iS i)) (fun j a hj => ⟨fun _ => ⟨a, rfl, iS_log (by have := hx.2 a (List.mem_of_getElem? hj); omega), all_one hj, rfl⟩, fun z => nomatch z⟩) ?_
  refine ⟨xs.map iS, by rw [List.map_map]; rfl, ?_, by unfold jtS at h; rw [if_neg e] at h; exact h⟩
  have h1 := sum_lens (k := 7) (ys := xs.map iS) fun x hx' => by
    obtain ⟨i, hi, rfl⟩ := List.mem_map.mp hx'
    have := hx.2 i hi
    exact iS_len (by decide) this.1 (by omega)
  have h2 := hx.1
  rw [List.length_map] at h1 ⊢
  have h3 : Str.length "," = 1 := rfl
  rw [h3]
  omega
theorem ok_show_plan (Df : DefAt K mg "show_plan" s_show_plan ["bench", "wall", "bears"]) (B : Bt mg) (KC_Bench : Cls K (ca "Bench")) (KN_Bench : ∀ x, x ∈ (["kept_beds", "kept_pieces", "long_and_wide", "top"] : List Str) → NoAttr K (ca "Bench") x) (KC_Wall : Cls K (ca "Wall")) (KN_Wall : ∀ x, x ∈ (["kept_courses"] : List Str) → NoAttr K (ca "Wall") x) (C_Bench_size : CalleeM P w K mg base 1 (ca "Bench") "size" ["self"] [] (sizeS ca)) (C_Bench_beds : CalleeM P w K mg base 2 (ca "Bench") "beds" ["self"] [] (bedsS ca)) (C_Wall_courses : CalleeM P w K mg base 1 (ca "Wall") "courses" ["self"] [] (coursesW ca)) (C_show_joints : Callee P w K mg base 1 "show_joints" ["joints"] [] shjS) : Callee P w K mg base 3 "show_plan" ["bench", "wall", "bears"] [] (shpS ca) := by
  refine callee_of Df sc_show_plan (by decide) (by decide) fun f cdv A outer s H EX W hr hG tk hp => ?_
  refine ⟨_, (ss_cons (s_asgT (q_meth0 C_Bench_size KC_Bench tk (hr.mono (by decide)) hG (p_nm 0).val) (g_tup (n := 3) rfl (gs_cons (g_name 3 sc_show_plan.nd) (gs_cons (g_name 4 sc_show_plan.nd) (gs_cons (g_name 5 sc_show_plan.nd) gs_nil)))))
      (ss_cons (s_set 6 (q_lst (a_cons (q_add (q_str).p ((q_ty1 call_str_int g_strI (by rfl) B.str bt_str (p_nm 2))).p) (a_cons (q_add ((q_add ((q_add (q_str).p ((q_ty1 call_str_int g_strI (by rfl) B.str bt_str (p_nm 3))).p)).p (q_str).p)).p ((q_ty1 call_str_int g_strI (by rfl) B.str bt_str (p_nm 4))).p) a_nil))) sc_show_plan.nd)
      (ss_cons (s_for hp rfl (i_list (q_meth0 C_Bench_beds KC_Bench tk (hr.mono (by decide)) hG (p_nm 0).val)) (g_tup (n := 5) rfl (gs_cons (g_name 7 sc_show_plan.nd) (gs_cons (g_name 8 sc_show_plan.nd) (gs_cons (g_name 9 sc_show_plan.nd) (gs_cons (g_name 10 sc_show_plan.nd) (gs_cons (g_name 11 sc_show_plan.nd) gs_nil)))))) (ss_cons (s_set 12 (q_add ((q_add ((q_callC C_show_joints tk (hr.mono (by decide)) hG (by rfl) (a_cons (p_nm 10).val a_nil) [])).p (q_str).p)).p ((q_callC C_show_joints tk (hr.mono (by decide)) hG (by rfl) (a_cons (p_nm 11).val a_nil) [])).p) sc_show_plan.nd)
      (ss_one (s_expr (q_append 6 (a_cons (q_add ((q_add ((q_add ((q_add ((q_add ((q_add ((q_add (q_str).p ((q_ty1 call_str_int g_strI (by rfl) B.str bt_str (p_nm 7))).p)).p (q_str).p)).p (p_nm 8))).p (q_str).p)).p ((q_ty1 call_str_int g_strI (by rfl) B.str bt_str (p_nm 9))).p)).p (q_str).p)).p (p_nm 12)) a_nil))))))
      (ss_cons (s_for hp rfl (i_list (q_meth0 C_Wall_courses KC_Wall tk (hr.mono (by decide)) hG (p_nm 1).val)) (g_tup (n := 2) rfl (gs_cons (g_name 7 sc_show_plan.nd) (gs_cons (g_name 13 sc_show_plan.nd) gs_nil))) (ss_cons (s_expr (q_append 6 (a_cons (q_add (q_str).p ((q_ty1 call_str_int g_strI (by rfl) B.str bt_str (p_nm 7))).p) a_nil)))
      (ss_one (s_for hp rfl (i_list (p_nm 13).val) (g_tup (n := 5) rfl (gs_cons (g_name 14 sc_show_plan.nd) (gs_cons (g_name 15 sc_show_plan.nd) (gs_cons (g_name 16 sc_show_plan.nd) (gs_cons (g_name 8 sc_show_plan.nd) (gs_cons (g_name 17 sc_show_plan.nd) gs_nil)))))) (ss_cons (s_set 18 (q_add ((q_add ((q_add ((q_add ((q_ty1 call_str_int g_strI (by rfl) B.str bt_str (p_nm 14))).p (q_str).p)).p ((q_ty1 call_str_int g_strI (by rfl) B.str bt_str (p_nm 15))).p)).p (q_str).p)).p ((q_ty1 call_str_int g_strI (by rfl) B.str bt_str (p_nm 16))).p) sc_show_plan.nd)
      (ss_one (s_expr (q_append 6 (a_cons (q_add ((q_add ((q_add ((q_add ((q_add (q_str).p (p_nm 18))).p (q_str).p)).p ((q_orS (p_nm 8).val (q_one q_str))).p)).p (q_str).p)).p (p_nm 17)) a_nil)))))))))
      (ss_one (s_ret (q_join q_str ((q_lcO (own := [("row", 19)]) rfl sc_show_plan.nd (i_own 6) (blkOk_by (by rfl)) (fun _ _ _ _ _ => (g_name 19 sc_show_plan.nd)) (fun _ _ _ _ _ => ts_nil) (fun _ _ _ _ _ => (q_add (p_nm 19) (q_str).p)))).p))))))), fun args Q E hl h => ?_⟩
  clear hl hr hG tk hp W EX H s outer A cdv f Df B KC_Bench KN_Bench KC_Wall KN_Wall C_Bench_size C_Bench_beds C_Wall_courses C_show_joints
  obtain ⟨L, W, B, C, b, rfl, hB, hC, hb, h⟩ := h
  have hw := ok_weak hB
  have hwc := wall_weak hC
  have hL := hw.1
  have hW := hw.2.1
  unfold M6 at hL hW
  walk_at "nf"
  refine ⟨⟨rfl, rfl⟩, L, W, B, rfl, rfl, ?_⟩
  conv => whnf
  walk_at "nf"
  refine ⟨b, rfl, iS_log2 (by omega), szA (m := 6) (n := 200) (by decide +kernel) (iS_200 (by omega) (by omega)) (by decide), ?_⟩
  refine ⟨L, rfl, iS_log2 (by omega), szA (m := 6) (n := 200) (by decide +kernel) (iS_200 (by omega) (by omega)) (by decide), ?_⟩
  refine ⟨szA (lnA (m := 6) (n := 200) (by decide +kernel) (iS_200 (by omega) (by omega))) l1 (by decide), ?_⟩
  refine ⟨W, rfl, iS_log2 (by omega), szA (lnA (lnA (m := 6) (n := 200) (by decide +kernel) (iS_200 (by omega) (by omega))) l1) (iS_200 (i := W) (by omega) (by omega)) (by decide), ?_⟩
  walk_at "nf"
  have e1 : ([D.str (("bears " : Str) ++ iS b), D.str (("bench " : Str) ++ iS L ++ (" " : Str) ++ iS W)] : List D) = (bedRs L W (B.take 0) b).map D.str := by rw [row_bears, row_bench]; rfl
  refine ⟨⟨rfl, rfl⟩, L, W, B, rfl, ?_⟩
  refine .over B bedD rfl [6, 7, 8, 9, 10, 11, 12] (fun j vs => ∃ l x1 x2 x3 x4 x5 x6, vs = [some (.ow .lst l), x1, x2, x3, x4, x5, x6] ∧ l = (bedRs L W (B.take j) b).map D.str) ⟨[_, _, _, _, _, _, _], rfl, _, _, _, _, _, _, _, rfl, e1⟩ ?_ ?_
  · rintro j x vs hj ⟨l, x1, x2, x3, x4, x5, x6, rfl, rfl⟩
    obtain ⟨h1, h2, h3, h4, h5⟩ := hw.2.2.2 x (List.mem_of_getElem? hj)
    unfold M6 at h1
    refine ⟨rfl, ?_⟩
    walk_at "nf"
    refine ⟨x.xs, rfl, h4, szA (jt_len h4) l1 (by decide), x.ys, rfl, h5, szA (lnA (jt_len h4) l1) (jt_len h5) (by decide), ?_⟩
    walk_at "nf"
    have k1 : (("bed " : Str) ++ iS x.h).length ≤ 206 := lnA (m := 6) (n := 200) (by decide +kernel) (iS_200 (by omega) (by omega))
    have k2 := lnA k1 l1
    have k3 := lnA k2 (let_len h2)
    have k4 := lnA k3 l1
    have k5 := lnA k4 (iS_200 (i := x.w) (by omega) (by omega))
    have k6 := lnA k5 l1
    have kj := lnA (lnA (jt_len h4) l1) (jt_len h5)
    have hl := bedRs_len (L := L) (W := W) (B := B.take j) (b := b)
    have hB6 := hw.2.2.1.2
    refine ⟨rfl, x.h, rfl, iS_log2 (by omega), szA (m := 6) (n := 200) (by decide +kernel) (iS_200 (by omega) (by omega)) (by decide), szA k1 l1 (by decide), szA k2 (let_len h2) (by decide), szA k3 l1 (by decide), x.w, rfl, iS_log2 (by omega), szA k4 (iS_200 (i := x.w) (by omega) (by omega)) (by decide), szA k5 l1 (by decide), szA k6 kj (by decide), szL (by rw [List.length_map, hl, List.length_take]; omega), ?_⟩
    refine ⟨[_, _, _, _, _, _, _], rfl, _, _, _, _, _, _, _, rfl, ?_⟩
    rw [bedRs_snoc hj, List.map_append, ← row_bed]
    rfl
  · rintro vs ⟨l, x1, x2, x3, x4, x5, x6, rfl, rfl⟩
    walk_at "nf"
    rw [List.take_length]
    refine ⟨⟨rfl, rfl⟩, C, rfl, ?_⟩
    refine .over C coD rfl [6, 7, 8, 13, 14, 15, 16, 17, 18] (fun j vs => ∃ l x1 x2 x3 x4 x5 x6 x7 x8, vs = [some (.ow .lst l), x1, x2, x3, x4, x5, x6, x7, x8] ∧ l = (bedRs L W B b ++ (C.take j).flatMap coRs).map D.str) ⟨[_, _, _, _, _, _, _, _, _], rfl, _, _, _, _, _, _, _, _, _, rfl, by simp⟩ ?_ ?_
    · rintro j c vs hj ⟨l, y1, y2, y3, y4, y5, y6, y7, y8, rfl, rfl⟩
      have hwc := hwc.2 c (List.mem_of_getElem? hj)
      obtain ⟨c1, c2, c3⟩ := hwc
      unfold M6 at c1
      refine ⟨rfl, ?_⟩
      walk_at "nf"
      have ht := tot_le hj
      have hl := bedRs_len (L := L) (W := W) (B := B) (b := b)
      have hl2 := coRs_len (C := C.take j)
      have hB6 := hw.2.2.1.2
      have hC6 := hC.1.2
      have h24 := hC.2.2.1
      have hlt : (bedRs L W B b ++ (C.take j).flatMap coRs).length ≤ 40 := by rw [List.length_append, hl, hl2, List.length_take]; omega
      refine ⟨rfl, c.h, rfl, iS_log2 (by omega), szA (m := 10) (n := 200) (by decide +kernel) (iS_200 (by omega) (by omega)) (by decide), szL (by rw [List.length_map]; omega), ?_⟩
      walk_at "nf"
      refine .over c.ps plD rfl [6, 8, 14, 15, 16, 17, 18] (fun i vs => ∃ l x2 x4 x5 x6 x7 x8, vs = [some (.ow .lst l), x2, x4, x5, x6, x7, x8] ∧ l = (bedRs L W B b ++ (C.take j).flatMap coRs ++ (rowS ["course", iS c.h] :: (c.ps.take i).map fun p => rowS (plWs p))).map D.str) ⟨[_, _, _, _, _, _, _], rfl, _, _, _, _, _, _, _, rfl, ?_⟩ ?_ ?_
      · rw [← row_course]
        simp
        rfl
      · rintro i q vs hi ⟨l, z2, z4, z5, z6, z7, z8, rfl, rfl⟩
        obtain ⟨q1, q2, q3, q4, q5⟩ := c2 q (List.mem_of_getElem? hi)
        unfold M6 at q2 q3
        have hil := (List.getElem?_eq_some_iff.mp hi).1
        have m1 : (iS q.x).length ≤ 200 := iS_200 (by omega) (by omega)
        have m2 := lnA m1 l1
        have m3 := lnA m2 (iS_200 (i := q.w) (by omega) (by omega))
        have m4 := lnA m3 l1
        have m5 := lnA m4 (iS_200 (i := q.d) (by omega) (by omega))
        refine ⟨rfl, ?_⟩
        walk_at "nf"
        refine ⟨q.x, rfl, iS_log2 (by omega), szA m1 l1 (by decide), q.w, rfl, iS_log2 (by omega), szA m2 (iS_200 (i := q.w) (by omega) (by omega)) (by decide), szA m3 l1 (by decide), q.d, rfl, iS_log2 (by omega), szA m4 (iS_200 (i := q.d) (by omega) (by omega)) (by decide), ?_⟩
        walk_at "nf"
        have n1 := lnA (x := ("place " : Str)) (m := 6) (by decide +kernel) m5
        have n2 := lnA n1 l1
        have n3 := lnA n2 (gS_len q4)
        have n4 := lnA n3 l1
        refine ⟨rfl, szA (m := 6) (by decide +kernel) m5 (by decide), szA n1 l1 (by decide), ?_⟩
        refine ⟨szN (Nat.le_trans (show q.g.length ≤ 200 from by rcases q4 with w | w; exact let_len w; rw [w]; decide) (by decide)), fun z => ?_, fun z => ?_⟩
        · have eg : gS q.g = q.g := if_neg fun w => by rw [w] at z; exact absurd z (by decide)
          rw [eg] at n3 n4
          refine ⟨szA n2 (show q.g.length ≤ 200 from eg ▸ gS_len q4) (by decide), szA n3 l1 (by decide), szA n4 (lie_len q5) (by decide), szL (by simp only [List.length_map, List.length_append, List.length_cons, List.length_take] at hlt ⊢; omega), ?_⟩
          refine ⟨[_, _, _, _, _, _, _], rfl, _, _, _, _, _, _, _, rfl, ?_⟩
          have er := row_place (p := q)
          rw [eg] at er
          rw [show c.ps.take (i + 1) = c.ps.take i ++ [q] from by rw [List.take_succ, hi]; rfl]
          exact (congrArg (fun d => _ ++ [D.str d]) er).trans (by simp)
        · have e0 : q.g = "" := TL.ext_tl (List.length_eq_zero_iff.mp (by rw [← TL.len_tl]; exact of_decide_eq_true z))
          have eg : gS q.g = "-" := if_pos e0
          rw [eg] at n3 n4
          refine ⟨szA n2 (n := 200) (by decide +kernel) (by decide), szA n3 l1 (by decide), szA n4 (lie_len q5) (by decide), szL (by simp only [List.length_map, List.length_append, List.length_cons, List.length_take] at hlt ⊢; omega), ?_⟩
          refine ⟨[_, _, _, _, _, _, _], rfl, _, _, _, _, _, _, _, rfl, ?_⟩
          have er := row_place (p := q)
          rw [eg] at er
          rw [show c.ps.take (i + 1) = c.ps.take i ++ [q] from by rw [List.take_succ, hi]; rfl]
          exact (congrArg (fun d => _ ++ [D.str d]) er).trans (by simp)
      · rintro vs ⟨l, z2, z4, z5, z6, z7, z8, rfl, rfl⟩
        walk_at "nf"
        refine ⟨[_, _, _, _, _, _, _, _, _], rfl, _, _, _, _, _, _, _, _, _, rfl, ?_⟩
        rw [List.take_length, cos_snoc hj]
        simp [coRs]
    · rintro vs ⟨l, y1, y2, y3, y4, y5, y6, y7, y8, rfl, rfl⟩
      walk_at "nf"
      rw [List.take_length, ← planRs_eq]
      have hrl := rows_len hw (wall_weak hC) hb
      refine .each (planRs L W B C b) D.str rfl (fun r => .str (r ++ ("\n" : Str))) (fun j r hj => ⟨fun _ => ⟨szA (m := 1206) (n := 1) (hrl r (List.mem_of_getElem? hj)) (by decide +kernel) (by decide), all_one hj, rfl⟩, fun z => nomatch z⟩) ?_
      refine ⟨(planRs L W B C b).map fun r => r ++ ("\n" : Str), by rw [List.map_map]; rfl, ?_, h⟩
      have h1 := sum_lens (k := 1207) (ys := (planRs L W B C b).map fun r => r ++ ("\n" : Str)) fun x hx => by
        obtain ⟨r, hr, rfl⟩ := List.mem_map.mp hx
        exact lnA (m := 1206) (n := 1) (hrl r hr) (by decide +kernel)
      have h3 : Str.length "" = 0 := rfl
      rw [List.length_map, plan_rows] at h1
      rw [h3, Nat.mul_zero, Nat.add_zero]
      have h5 := hw.2.2.1.2
      have h6 := hC.1.2
      have h7 := hC.2.2.1
      have h8 : (2 + B.length + C.length + totF C) * 1207 ≤ 38 * 1207 := Nat.mul_le_mul (by omega) (Nat.le_refl _)
      omega
theorem ok_joints_in (Df : DefAt K mg "joints_in" s_joints_in ["word"]) (B : Bt mg) (C_whole_in : Callee P w K mg base 1 "whole_in" ["word"] [] wholeInS) (C_is_spot : Callee P w K mg base 3 "is_spot" ["thing"] [] spotS) : Callee P w K mg base 4 "joints_in" ["word"] [] jntS := by
  refine callee_of Df sc_joints_in (by decide) (by decide) fun f cdv A outer s H EX W hr hG tk hp => ?_
  refine ⟨_, (ss_cons (s_if (t_eq (hu65 hr) (p_nm 0) (q_str).p) (ss_one (s_ret ((q_lst a_nil)).fz)) ss_nil)
      (ss_cons (s_setLcF 1 (own := [("part", 2)]) rfl sc_joints_in.nd (i_list ((q_split (p_nm 0).val (q_str).p)).fz) (blkOk_by (by rfl)) (fun _ _ _ _ _ => (g_name 2 sc_joints_in.nd)) (fun _ _ _ _ _ => ts_nil) (fun _ _ _ _ _ => (q_callC C_whole_in takes0 (hr.mono (by decide)) hG (by rfl) (a_cons (p_nm 2).val a_nil) [])))
      (ss_cons (s_if ((w_orM (t_gt ((q_b1 c_lenB g_lenB (by rfl) B.len bt_len (p_nm 1))).p ((q_glob (n := 23) (by rfl) B.g_MOST_JOINTS_texts)).p) (w_or1 (t_not (t_val (q_b1 (cr_all rfl) g_all (by rfl) B.all bt_all ((q_lc (own := [("spot", 3)]) rfl sc_joints_in.nd (i_list (p_nm 1).val) (blkOk_by (by rfl)) (fun _ _ _ _ _ => (g_name 3 sc_joints_in.nd)) (fun _ _ _ _ _ => ts_nil) (fun _ _ _ _ _ => (q_callC C_is_spot takes0 (hr.mono (by decide)) hG (by rfl) (a_cons (p_nm 3).val a_nil) [])))).p)))))).t (ss_one (s_ret q_non)) ss_nil)
      (ss_one (s_ret (p_nm 1).val))))), fun args Q E hl h => ?_⟩
  clear hl hr hG tk hp W EX H s outer A cdv f Df B C_whole_in C_is_spot
  obtain ⟨x, rfl, hz, h⟩ := h
  walk_at "nf"
  refine ⟨.inl rfl, fun z => ?_, fun z => ?_⟩
  · have e := str_eq z
    subst e
    exact h
  have hne := str_ne z
  refine ⟨_, rfl, by decide, szT hz, ?_⟩
  refine .each (Txt.split x ",") D.str rfl (fun p => oD (whF p)) (fun j a hj => ⟨fun _ => ⟨a, rfl, Nat.le_trans (split_part (List.mem_of_getElem? hj)) hz, all_one hj, rfl⟩, fun z => nomatch z⟩) ?_
  walk_at "nf"
  unfold jtD jtF at h
  rw [if_neg hne] at h
  have hlen : ((((Txt.split x ",").map fun p => oD (whF p)).length : Nat) : Int) = ((Txt.split x ",").length : Nat) := by rw [List.length_map]
  refine ⟨!(allIn 0 1000000 ((Txt.split x ",").map whF)).isSome, fun _ => ?_, fun z => ?_, fun z => ?_⟩
  · refine .each (Txt.split x ",") (fun p => oD (whF p)) rfl (fun p => .bl (btB (oD (whF p)) 0 1000000)) (fun j a hj => ⟨fun _ => ⟨_, rfl, tyD_oD, all_one hj, rfl⟩, fun z => nomatch z⟩) ?_
    refine ⟨(Txt.split x ",").map fun p => btB (oD (whF p)) 0 1000000, by rw [List.map_map]; rfl, ?_, rfl⟩
    rw [← allIn_bt, List.all_map, List.all_map]
    rfl
  · have z : (decide ((23 : Int) < (((Txt.split x ",").map fun p => oD (whF p)).length : Nat)) || !(allIn 0 1000000 ((Txt.split x ",").map whF)).isSome) = true := z
    rw [hlen] at z
    by_cases hl : 23 < (Txt.split x ",").length
    · rw [if_pos hl] at h
      exact h
    · rw [decide_eq_false (by omega), Bool.false_or] at z
      rw [if_neg hl] at h
      cases e : allIn 0 1000000 ((Txt.split x ",").map whF) with
      | none => rw [e] at h; exact h
      | some xs => rw [e] at z; cases z
  · have z : (decide ((23 : Int) < (((Txt.split x ",").map fun p => oD (whF p)).length : Nat)) || !(allIn 0 1000000 ((Txt.split x ",").map whF)).isSome) = false := z
    rw [hlen] at z
    simp only [Bool.or_eq_false_iff, decide_eq_false_iff_not, Bool.not_eq_false'] at z
    rw [if_neg (by omega)] at h
    cases e : allIn 0 1000000 ((Txt.split x ",").map whF) with
    | none => rw [e] at z; cases z.2
    | some xs =>
      rw [e] at h
      obtain ⟨e1, _, _⟩ := allIn_some e
      have h : Q (.fz (intsD xs)) [] := h
      unfold intsD at h
      rw [← e1, List.map_map] at h
      exact h
theorem ok_bed_in (Df : DefAt K mg "bed_in" s_bed_in ["words"]) (B : Bt mg) (C_whole_in : Callee P w K mg base 1 "whole_in" ["word"] [] wholeInS) (C_joints_in : Callee P w K mg base 4 "joints_in" ["word"] [] jntS) (C_is_measure : Callee P w K mg base 3 "is_measure" ["thing"] [] measureS) (C_is_grain : Callee P w K mg base 1 "is_grain" ["thing"] [] grainX) : Callee P w K mg base 5 "bed_in" ["words"] [] bdInS := by
  refine callee_of Df sc_bed_in (by decide) (by decide) fun f cdv A outer s H EX W hr hG tk hp => ?_
  refine ⟨_, (ss_cons (s_if ((w_orM (t_ne (hu65 hr) ((q_b1 c_lenB g_lenB (by rfl) B.len bt_len (p_nm 0))).p (q_int).p) (w_or1 (t_ne (hu65 hr) ((q_ixA (hu65 hr) (p_nm 0) (q_int).p)).p (q_str).p)))).t (ss_one (s_ret q_non)) ss_nil)
      (ss_cons (s_set 1 (q_callC C_whole_in tk (hr.mono (by decide)) hG (by rfl) (a_cons (q_ixA (hu65 hr) (p_nm 0) (q_int).p) a_nil) []) sc_bed_in.nd)
      (ss_cons (s_set 2 (q_callC C_whole_in tk (hr.mono (by decide)) hG (by rfl) (a_cons (q_ixA (hu65 hr) (p_nm 0) (q_int).p) a_nil) []) sc_bed_in.nd)
      (ss_cons (s_set 3 (q_callC C_joints_in tk (hr.mono (by decide)) hG (by rfl) (a_cons (q_ixA (hu65 hr) (p_nm 0) (q_int).p) a_nil) []) sc_bed_in.nd)
      (ss_cons (s_set 4 (q_callC C_joints_in tk (hr.mono (by decide)) hG (by rfl) (a_cons (q_ixA (hu65 hr) (p_nm 0) (q_int).p) a_nil) []) sc_bed_in.nd)
      (ss_cons (s_if ((w_orM (t_not (t_val (q_callC C_is_measure tk (hr.mono (by decide)) hG (by rfl) (a_cons (p_nm 1).val a_nil) []))) (w_orM (t_not (t_val (q_callC C_is_grain tk (hr.mono (by decide)) hG (by rfl) (a_cons (q_ixA (hu65 hr) (p_nm 0) (q_int).p) a_nil) []))) (w_orM (t_isN (p_nm 3) (q_non).p) (w_or1 (t_isN (p_nm 4) (q_non).p)))))).t (ss_one (s_ret q_non)) ss_nil)
      (ss_cons (s_if ((w_orM (t_isN (p_nm 2) (q_non).p) (w_or1 (t_not (t_chain op_le op_le (q_int).p (p_nm 2) ((q_glob (n := 1000) (by rfl) B.g_MOST_HEAVY_texts)).p))))).t (ss_one (s_ret q_non)) ss_nil)
      (ss_one (s_ret (q_tup (a_cons (p_nm 1).val (a_cons (q_ixA (hu65 hr) (p_nm 0) (q_int).p) (a_cons (p_nm 2).val (a_cons (p_nm 3).val (a_cons (p_nm 4).val a_nil))))))))))))))), fun args Q E hl h => ?_⟩
  clear hl hr hG tk hp W EX H s outer A cdv f Df B C_whole_in C_joints_in C_is_measure C_is_grain
  obtain ⟨ws, rfl, ⟨hw1, hw2, hw3⟩, h⟩ := h
  walk_at "nf"
  by_cases hl : ws.length = 6
  rotate_left
  · have hb : bdD ws = .non := by unfold bdD bdF; rw [if_neg (fun z => hl z.1)]
    rw [hb] at h
    have c : (!decide ((((ws.map D.str).length : Nat) : Int) = ((6 : Nat) : Int))) = true := by rw [lenB]; simpa using hl
    refine ⟨.inl rfl, true, fun z => ?_, fun z => h, fun z => ?_⟩
    · exact absurd (c.symm.trans z) (by decide)
    · exfalso
      have z : ((!decide ((((ws.map D.str).length : Nat) : Int) = ((6 : Nat) : Int))) || true) = false := z
      rw [Bool.or_true] at z
      cases z
  obtain ⟨a, b, c, d, e, f, rfl⟩ := six hl
  refine ⟨.inl rfl, !decide (a = "bed"), fun z => ⟨_, at_int (by decide) rfl, .inl rfl, rfl, rfl⟩, fun z => ?_, fun z => ?_⟩
  · have hb : bdD [a, b, c, d, e, f] = .non := by
      unfold bdD bdF
      rw [if_neg fun q => ?_]
      have z : (false || !decide (a = "bed")) = true := z
      simp at z
      exact z q.2
    rw [hb] at h
    exact h
  have ha : a = "bed" := by
    have z : (false || !decide (a = "bed")) = false := z
    simpa using z
  refine ⟨_, at_int (by decide) rfl, _, rfl, hw3 _ (by simp), ?_⟩
  refine ⟨_, at_int (by decide) rfl, _, rfl, hw3 _ (by simp), ?_⟩
  refine ⟨_, at_int (by decide) rfl, _, rfl, hw3 _ (by simp), ?_⟩
  refine ⟨_, at_int (by decide) rfl, _, rfl, hw3 _ (by simp), ?_⟩
  walk_at "nf"
  have hb : bdF [a, b, c, d, e, f] = match whF b, whF d, jtF e, jtF f with
      | some h, some w, some xs, some ys => if (1 ≤ h ∧ h ≤ 1000000) ∧ smB c = true ∧ (1 ≤ w ∧ w ≤ 1000) then some ⟨h, c, w, xs, ys⟩ else none
      | _, _, _, _ => none := by
    unfold bdF
    rw [if_pos ⟨rfl, ha⟩]
    rfl
  refine ⟨_, rfl, tyD_oD, (!smB c) || (nonD (jtD e) || nonD (jtD f)), fun _ => ⟨_, at_int (by decide) rfl, _, rfl, rfl, fun x q => by cases q; exact szN (Nat.le_trans (hw3 c (by simp)) (by decide)), nonD (jtD e) || nonD (jtD f), fun _ => ⟨nonD (jtD f), fun _ => ⟨rfl, rfl⟩, rfl, rfl⟩, rfl, rfl⟩, fun z => ?_, fun z => ?_⟩
  · have z : (!btB (oD (whF b)) 1 1000000 || (!smB c || (nonD (jtD e) || nonD (jtD f)))) = true := z
    have hn : bdF [a, b, c, d, e, f] = none := by
      cases q : bdF [a, b, c, d, e, f] with
      | none => rfl
      | some bb =>
        exfalso
        rw [hb] at q
        split at q
        · rename_i h' w' xs ys e1 e2 e3 e4
          split at q
          · rename_i hc
            have c1 : btB (oD (some h')) 1 1000000 = true := btI.mpr hc.1
            rw [e1, jt_at e3, jt_at e4, c1, hc.2.1] at z
            cases z
          · cases q
        · cases q
    unfold bdD at h
    rw [hn] at h
    exact h
  have z : (!btB (oD (whF b)) 1 1000000 || (!smB c || (nonD (jtD e) || nonD (jtD f)))) = false := z
  simp only [Bool.or_eq_false_iff, Bool.not_eq_false'] at z
  obtain ⟨z1, z2, z3, z4⟩ := z
  obtain ⟨hh, e1, hh1⟩ := bt_some z1
  obtain ⟨xs, e3⟩ := jt_some z3
  obtain ⟨ys, e4⟩ := jt_some z4
  rw [e1, e3, e4] at hb
  rw [jt_at e3, jt_at e4, e1]
  walk_at "nf"
  cases e2 : whF d with
  | none =>
    rw [e2] at hb
    refine ⟨true, fun z => (nomatch z), fun _ => ?_, fun z => nomatch z⟩
    unfold bdD at h
    rw [hb] at h
    exact h
  | some w' =>
    rw [e2] at hb
    refine ⟨!(decide (1 ≤ w') && decide (w' ≤ 1000)), fun _ => ?_, fun z => ?_, fun z => ?_⟩
    · exact ⟨decide (w' ≤ 1000), fun _ => ⟨rfl, rfl⟩, rfl, rfl⟩
    · have z : (false || !(decide (1 ≤ w') && decide (w' ≤ 1000))) = true := z
      have hn : bdF [a, b, c, d, e, f] = none := by
        rw [hb]
        show (if (1 ≤ hh ∧ hh ≤ 1000000) ∧ smB c = true ∧ (1 ≤ w' ∧ w' ≤ 1000) then some (⟨hh, c, w', xs, ys⟩ : Bed) else none) = none
        rw [if_neg fun q => ?_]
        simp [q.2.2.1, q.2.2.2] at z
      unfold bdD at h
      rw [hn] at h
      exact h
    have z : (false || !(decide (1 ≤ w') && decide (w' ≤ 1000))) = false := z
    have hn : bdF [a, b, c, d, e, f] = some ⟨hh, c, w', xs, ys⟩ := by
      rw [hb]
      show (if (1 ≤ hh ∧ hh ≤ 1000000) ∧ smB c = true ∧ (1 ≤ w' ∧ w' ≤ 1000) then some (⟨hh, c, w', xs, ys⟩ : Bed) else none) = _
      rw [if_pos ⟨hh1, z2, by simpa using z⟩]
    walk_at "nf"
    refine ⟨_, at_int (by decide) rfl, ?_⟩
    unfold bdD at h
    rw [hn] at h
    exact h
theorem ok_place_in (Df : DefAt K mg "place_in" s_place_in ["words"]) (B : Bt mg) (C_whole_in : Callee P w K mg base 1 "whole_in" ["word"] [] wholeInS) (C_is_grain : Callee P w K mg base 1 "is_grain" ["thing"] [] grainX) (C_is_spot : Callee P w K mg base 3 "is_spot" ["thing"] [] spotS) (C_is_measure : Callee P w K mg base 3 "is_measure" ["thing"] [] measureS) (C_is_lie : Callee P w K mg base 1 "is_lie" ["thing"] [] lieX) : Callee P w K mg base 4 "place_in" ["words"] [] plInS := by
  refine callee_of Df sc_place_in (by decide) (by decide) fun f cdv A outer s H EX W hr hG tk hp => ?_
  refine ⟨_, (ss_cons (s_if ((w_orM (t_ne (hu65 hr) ((q_b1 c_lenB g_lenB (by rfl) B.len bt_len (p_nm 0))).p (q_int).p) (w_or1 (t_ne (hu65 hr) ((q_ixA (hu65 hr) (p_nm 0) (q_int).p)).p (q_str).p)))).t (ss_one (s_ret q_non)) ss_nil)
      (ss_cons (s_asgT ((q_lc (own := [("word", 4)]) rfl sc_place_in.nd (i_list ((q_slice (p_nm 0) (o_some q_int) (o_some q_int))).fz) (blkOk_by (by rfl)) (fun _ _ _ _ _ => (g_name 4 sc_place_in.nd)) (fun _ _ _ _ _ => ts_nil) (fun _ _ _ _ _ => (q_callC C_whole_in takes0 (hr.mono (by decide)) hG (by rfl) (a_cons (p_nm 4).val a_nil) [])))).fz (g_tupL (n := 3) rfl (gs_cons (g_name 1 sc_place_in.nd) (gs_cons (g_name 2 sc_place_in.nd) (gs_cons (g_name 3 sc_place_in.nd) gs_nil)))))
      (ss_cons (s_set 5 (q_ixA (hu65 hr) (p_nm 0) (q_int).p) sc_place_in.nd)
      (ss_cons (s_if (t_eq (hu65 hr) (p_nm 5) (q_str).p) (ss_one (s_set 5 q_str sc_place_in.nd)) (ss_one (s_if (t_not (t_val (q_callC C_is_grain tk (hr.mono (by decide)) hG (by rfl) (a_cons (p_nm 5).val a_nil) []))) (ss_one (s_ret q_non)) ss_nil))).cut
      (ss_cons (s_if ((w_orM (t_not (t_val (q_callC C_is_spot tk (hr.mono (by decide)) hG (by rfl) (a_cons (p_nm 1).val a_nil) []))) (w_orM (t_not (t_val (q_callC C_is_measure tk (hr.mono (by decide)) hG (by rfl) (a_cons (p_nm 2).val a_nil) []))) (w_orM (t_not (t_val (q_callC C_is_measure tk (hr.mono (by decide)) hG (by rfl) (a_cons (p_nm 3).val a_nil) []))) (w_or1 (t_not (t_val (q_callC C_is_lie tk (hr.mono (by decide)) hG (by rfl) (a_cons (q_ixA (hu65 hr) (p_nm 0) (q_int).p) a_nil) [])))))))).t (ss_one (s_ret q_non)) ss_nil)
      (ss_one (s_ret (q_tup (a_cons (p_nm 1).val (a_cons (p_nm 2).val (a_cons (p_nm 3).val (a_cons (p_nm 5).val (a_cons (q_ixA (hu65 hr) (p_nm 0) (q_int).p) a_nil))))))))))))), fun args Q E hl h => ?_⟩
  clear hl hr hG tk hp W EX H s outer A cdv f Df B C_whole_in C_is_grain C_is_spot C_is_measure C_is_lie
  obtain ⟨ws, rfl, ⟨hw1, hw2, hw3⟩, h⟩ := h
  walk_at "nf"
  by_cases hl : ws.length = 6
  rotate_left
  · have hb : plcD ws = .non := by unfold plcD placF; rw [if_neg (fun z => hl z.1)]
    rw [hb] at h
    have c : (!decide ((((ws.map D.str).length : Nat) : Int) = ((6 : Nat) : Int))) = true := by rw [lenB]; simpa using hl
    refine ⟨.inl rfl, true, fun z => ?_, fun z => h, fun z => ?_⟩
    · exact absurd (c.symm.trans z) (by decide)
    · exfalso
      have z : ((!decide ((((ws.map D.str).length : Nat) : Int) = ((6 : Nat) : Int))) || true) = false := z
      rw [Bool.or_true] at z
      cases z
  obtain ⟨a, b, c, d, e, f, rfl⟩ := six hl
  refine ⟨.inl rfl, !decide (a = "place"), fun z => ⟨_, at_int (by decide) rfl, .inl rfl, rfl, rfl⟩, fun z => ?_, fun z => ?_⟩
  · have hb : plcD [a, b, c, d, e, f] = .non := by
      unfold plcD placF
      rw [if_neg fun q => ?_]
      have z : (false || !decide (a = "place")) = true := z
      simp at z
      exact z q.2
    rw [hb] at h
    exact h
  have ha : a = "place" := by
    have z : (false || !decide (a = "place")) = false := z
    simpa using z
  walk_at "nf"
  refine .each [b, c, d] D.str rfl (fun p => oD (whF p)) (fun j a hj => ⟨fun _ => ⟨a, rfl, hw3 _ (by have := List.mem_of_getElem? hj; simp at this ⊢; rcases this with rfl | rfl | rfl <;> simp), all_one hj, rfl⟩, fun z => nomatch z⟩) ?_
  walk_at "nf"
  have hb : placF [a, b, c, d, e, f] = match whF b, whF c, whF d with
      | some x, some w, some y => if (e = "-" ∨ smB e = true) ∧ (0 ≤ x ∧ x ≤ 1000000) ∧ (1 ≤ w ∧ w ≤ 1000000) ∧ (1 ≤ y ∧ y ≤ 1000000) ∧ lieB (.str f) = true then some ⟨x, w, y, if e = "-" then ("" : Str) else e, f⟩ else none
      | _, _, _ => none := by
    unfold placF
    rw [if_pos ⟨rfl, ha⟩]
    rfl
  refine ⟨rfl, ?_⟩
  walk_at "nf"
  refine ⟨_, at_int (by decide) rfl, ?_⟩
  walk_at "nf"
  refine .mk ⟨fun v => ∃ g, v = [some (.fz (lsD [a, b, c, d, e, f])), some (.fz (oD (whF b))), some (.fz (oD (whF c))), some (.fz (oD (whF d))), none, some (.fz (.str g))] ∧ (e = "-" ∨ smB e = true) ∧ g = (if e = "-" then ("" : Str) else e), ?_, ?_⟩
  · refine ⟨.inl rfl, fun z => ?_, fun z => ?_⟩
    · have q := str_eq z
      exact ⟨_, rfl, .inl q, by rw [if_pos q]⟩
    have hne := str_ne z
    refine ⟨_, rfl, rfl, fun x q => by cases q; exact szN (Nat.le_trans (hw3 e (by simp)) (by decide)), fun z => ?_, fun z => ?_⟩
    · have hn : placF [a, b, c, d, e, f] = none := by
        rw [hb]
        split
        · rw [if_neg fun q => ?_]
          have z : (!smB e) = true := z
          rcases q.1 with q | q
          · exact hne q
          · rw [q] at z; cases z
        · rfl
      unfold plcD at h
      rw [hn] at h
      exact h
    · exact ⟨_, rfl, .inr (by have z : (!smB e) = false := z; simpa using z), by rw [if_neg hne]⟩
  rintro _ ⟨g, rfl, hg, eg⟩
  walk_at "nf"
  refine ⟨_, rfl, tyD_oD, !btB (oD (whF c)) 1 1000000 || (!btB (oD (whF d)) 1 1000000 || !lieB (.str f)), fun _ => ⟨_, rfl, tyD_oD, !btB (oD (whF d)) 1 1000000 || !lieB (.str f), fun _ => ⟨_, rfl, tyD_oD, !lieB (.str f), fun _ => ⟨_, at_int (by decide) rfl, _, rfl, rfl, rfl, rfl⟩, rfl, rfl⟩, rfl, rfl⟩, fun z => ?_, fun z => ?_⟩
  · have z : (!btB (oD (whF b)) 0 1000000 || (!btB (oD (whF c)) 1 1000000 || (!btB (oD (whF d)) 1 1000000 || !lieB (.str f)))) = true := z
    have hn : placF [a, b, c, d, e, f] = none := by
      cases q : placF [a, b, c, d, e, f] with
      | none => rfl
      | some bb =>
        exfalso
        rw [hb] at q
        split at q
        · rename_i x w' y e1 e2 e3
          split at q
          · rename_i hc
            have c1 : btB (oD (some x)) 0 1000000 = true := btI.mpr hc.2.1
            have c2 : btB (oD (some w')) 1 1000000 = true := btI.mpr hc.2.2.1
            have c3 : btB (oD (some y)) 1 1000000 = true := btI.mpr hc.2.2.2.1
            rw [e1, e2, e3, c1, c2, c3, hc.2.2.2.2] at z
            cases z
          · cases q
        · cases q
    unfold plcD at h
    rw [hn] at h
    exact h
  have z : (!btB (oD (whF b)) 0 1000000 || (!btB (oD (whF c)) 1 1000000 || (!btB (oD (whF d)) 1 1000000 || !lieB (.str f)))) = false := z
  simp only [Bool.or_eq_false_iff, Bool.not_eq_false'] at z
  obtain ⟨z1, z2, z3, z4⟩ := z
  obtain ⟨x, e1, q1⟩ := bt_some z1
  obtain ⟨w', e2, q2⟩ := bt_some z2
  obtain ⟨y, e3, q3⟩ := bt_some z3
  have hn : placF [a, b, c, d, e, f] = some ⟨x, w', y, g, f⟩ := by
    rw [hb, e1, e2, e3]
    simp only
    rw [if_pos ⟨hg, q1, q2, q3, z4⟩, eg]
  rw [e1, e2, e3]
  walk_at "nf"
  refine ⟨_, at_int (by decide) rfl, ?_⟩
  unfold plcD at h
  rw [hn] at h
  exact h
theorem ok_head_taken (Df : DefAt K mg "head_taken" s_head_taken ["plan", "words"]) (B : Bt mg) (C_whole_in : Callee P w K mg base 1 "whole_in" ["word"] [] wholeInS) (C_is_measure : Callee P w K mg base 3 "is_measure" ["thing"] [] measureS) : Callee P w K mg base 4 "head_taken" ["plan", "words"] [0] headS := by
  refine callee_of Df sc_head_taken (by decide) (by decide) fun f cdv A outer s H EX W hr hG tk hp => ?_
  refine ⟨_, (ss_cons (s_if (t_isN (p_ixD (hu65 hr) (p_nm 0) q_str) (q_non).p) (ss_cons (s_set 2 (q_callC C_whole_in tk (hr.mono (by decide)) hG (by rfl) (a_cons (q_ixA (hu65 hr) (p_nm 1) ((q_neg (q_int).p)).p) a_nil) []) sc_head_taken.nd)
      (ss_cons (s_if ((w_orM (t_ne (hu65 hr) ((q_b1 c_lenB g_lenB (by rfl) B.len bt_len (p_nm 1))).p (q_int).p) (w_orM (t_ne (hu65 hr) ((q_ixA (hu65 hr) (p_nm 1) (q_int).p)).p (q_str).p) (w_orM (t_isN (p_nm 2) (q_non).p) (w_or1 (t_not (t_chain op_le op_le (q_int).p (p_nm 2) ((q_glob (n := 1000000000000000000000) (by rfl) B.g_MOST_BORNE)).p))))))).t (ss_one (s_ret q_bl)) ss_nil)
      (ss_cons (s_nset 0 (hu65 hr) (p_nm 2).val (p_nm 0) q_str)
      (ss_one (s_ret q_bl))))) ss_nil)
      (ss_cons (s_setLcF 3 (own := [("word", 4)]) rfl sc_head_taken.nd (i_list ((q_slice (p_nm 1) (o_some q_int) o_none)).fz) (blkOk_by (by rfl)) (fun _ _ _ _ _ => (g_name 4 sc_head_taken.nd)) (fun _ _ _ _ _ => ts_nil) (fun _ _ _ _ _ => (q_callC C_whole_in takes0 (hr.mono (by decide)) hG (by rfl) (a_cons (p_nm 4).val a_nil) [])))
      (ss_cons (s_if ((w_orM (t_ne (hu65 hr) ((q_b1 c_lenB g_lenB (by rfl) B.len bt_len (p_nm 1))).p (q_int).p) (w_orM (t_ne (hu65 hr) ((q_ixA (hu65 hr) (p_nm 1) (q_int).p)).p (q_str).p) (w_or1 (t_not (t_val (q_b1 (cr_all rfl) g_all (by rfl) B.all bt_all ((q_lc (own := [("one", 5)]) rfl sc_head_taken.nd (i_list (p_nm 3).val) (blkOk_by (by rfl)) (fun _ _ _ _ _ => (g_name 5 sc_head_taken.nd)) (fun _ _ _ _ _ => ts_nil) (fun _ _ _ _ _ => (q_callC C_is_measure takes0 (hr.mono (by decide)) hG (by rfl) (a_cons (p_nm 5).val a_nil) [])))).p))))))).t (ss_one (s_ret q_bl)) ss_nil)
      (ss_cons (s_nset 0 (hu65 hr) (p_nm 3).val (p_nm 0) q_str)
      (ss_one (s_ret q_bl)))))), fun args Q E hl h => ?_⟩
  clear hl hr hG tk hp W EX H s outer A cdv f Df B C_whole_in C_is_measure
  obtain ⟨s, ws, rfl, ⟨hw1, hw2, hw3⟩, hm, h⟩ := h
  walk_at "nf"
  obtain ⟨sb, sm, sB, sC⟩ := s
  cases sb with
  | none =>
    refine ⟨_, rfl, 0, rfl, _, rfl, fun z => ?_, fun z => ?_⟩
    rotate_left
    · exfalso
      have z : nonD (oD none) = false := z
      cases z
    have hlast : lastW ws ∈ ws := List.mem_of_getElem? (getD_at (by have := List.length_pos_iff.mpr hw1; omega)).symm.symm
    refine ⟨_, at_lastW hw1, _, rfl, hw3 _ hlast, ?_⟩
    walk_at "nf"
    by_cases hl : ws.length = 2
    rotate_left
    · have hn : hdF ⟨none, sm, sB, sC⟩ ws = none := by
        unfold hdF
        simp only
        split
        · rw [if_neg fun q => hl q.1]
        · rfl
      have c : (!decide ((((ws.map D.str).length : Nat) : Int) = ((2 : Nat) : Int))) = true := by rw [lenB]; simpa using hl
      refine ⟨.inl rfl, true, fun z => ?_, fun z => ?_, fun z => ?_⟩
      · exact absurd (c.symm.trans z) (by decide)
      · rw [hn] at h
        exact h
      · exfalso
        have z : ((!decide ((((ws.map D.str).length : Nat) : Int) = ((2 : Nat) : Int))) || true) = false := z
        rw [Bool.or_true] at z
        cases z
    obtain ⟨a, c, rfl⟩ := two hl
    have hd : hdF ⟨none, sm, sB, sC⟩ [a, c] = match whF c with
        | some b => if a = "bears" ∧ (1 ≤ b ∧ b ≤ 1000000000000000000000) then some (⟨some b, sm, sB, sC⟩ : PS) else none
        | none => none := by
      unfold hdF
      show (match whF c with
        | some b => if (2 : Nat) = 2 ∧ a = "bears" ∧ (1 ≤ b ∧ b ≤ 1000000000000000000000) then some (⟨some b, sm, sB, sC⟩ : PS) else none
        | none => none) = _
      cases whF c <;> simp
    cases e2 : whF c with
    | none =>
      rw [e2] at hd
      have e3 : whF (lastW [a, c]) = none := e2
      rw [e3]
      refine ⟨.inl rfl, true, fun _ => ⟨_, at_int (by decide) rfl, .inl rfl, true, fun _ => ⟨true, fun z => (nomatch z), rfl, rfl⟩, by rw [Bool.or_true], rfl⟩, fun z => ?_, fun z => ?_⟩
      · rw [hd] at h
        exact h
      · rw [Bool.or_true] at z
        cases z
    | some b =>
      rw [e2] at hd
      have e3 : whF (lastW [a, c]) = some b := e2
      rw [e3]
      refine ⟨.inl rfl, (!decide (a = "bears")) || !(decide (1 ≤ b) && decide (b ≤ 1000000000000000000000)), fun _ => ⟨_, at_int (by decide) rfl, .inl rfl, !(decide (1 ≤ b) && decide (b ≤ 1000000000000000000000)), fun _ => ⟨!(decide (1 ≤ b) && decide (b ≤ 1000000000000000000000)), fun _ => ⟨decide (b ≤ 1000000000000000000000), fun _ => ⟨rfl, rfl⟩, rfl, rfl⟩, rfl, rfl⟩, rfl, rfl⟩, fun z => ?_, fun z => ?_⟩
      · have z : (false || ((!decide (a = "bears")) || !(decide (1 ≤ b) && decide (b ≤ 1000000000000000000000)))) = true := z
        have hn : hdF ⟨none, sm, sB, sC⟩ [a, c] = none := by
          rw [hd]
          simp only
          rw [if_neg fun q => ?_]
          simp [q.1, q.2.1, q.2.2] at z
        rw [hn] at h
        exact h
      have z : (false || ((!decide (a = "bears")) || !(decide (1 ≤ b) && decide (b ≤ 1000000000000000000000)))) = false := z
      have hn : hdF ⟨none, sm, sB, sC⟩ [a, c] = some (⟨some b, sm, sB, sC⟩ : PS) := by
        rw [hd]
        simp only
        rw [if_pos (by simpa using z)]
      rw [hn] at h
      walk_at "nf"
      refine ⟨rfl, ⟨by decide, by decide⟩, _, rfl, 0, rfl, ?_⟩
      exact h
  | some b =>
    refine ⟨_, rfl, 0, rfl, _, rfl, fun z => ?_, fun z => ?_⟩
    · exfalso
      have z : nonD (oD (some b)) = true := z
      cases z
    walk_at "nf"
    have hb2 : (((ws.map D.str).length : Nat) : Int) = (ws.length : Nat) := by rw [List.length_map]
    refine .each (ws.drop 1) D.str (by show cutL (ws.map D.str) (some 1) none = _; rw [cut_drop (by decide)]; exact List.map_drop.symm) (fun p => oD (whF p)) (fun j a hj => ⟨fun _ => ⟨a, rfl, hw3 _ (List.mem_of_mem_drop (List.mem_of_getElem? hj)), all_one hj, rfl⟩, fun z => nomatch z⟩) ?_
    walk_at "nf"
    by_cases hl : ws.length = 3
    rotate_left
    · have hn : hdF ⟨some b, sm, sB, sC⟩ ws = none := by
        unfold hdF
        simp only
        split
        · rw [if_neg fun q => hl q.1]
        · rfl
      have c : (!decide ((((ws.map D.str).length : Nat) : Int) = ((3 : Nat) : Int))) = true := by rw [lenB]; simpa using hl
      refine ⟨.inl rfl, true, fun z => ?_, fun z => ?_, fun z => ?_⟩
      · exact absurd (c.symm.trans z) (by decide)
      · rw [hn] at h
        exact h
      · exfalso
        have z : ((!decide ((((ws.map D.str).length : Nat) : Int) = ((3 : Nat) : Int))) || true) = false := z
        rw [Bool.or_true] at z
        cases z
    obtain ⟨a, c, d, rfl⟩ := three hl
    have hd : hdF ⟨some b, sm, sB, sC⟩ [a, c, d] = match allIn 1 1000000 [whF c, whF d] with
        | some [l, w] => if a = "bench" then some (⟨some b, some (l, w), sB, sC⟩ : PS) else none
        | _ => none := by
      unfold hdF
      show (match allIn 1 1000000 [whF c, whF d] with
        | some [l, w] => if (3 : Nat) = 3 ∧ a = "bench" then some (⟨some b, some (l, w), sB, sC⟩ : PS) else none
        | _ => none) = _
      simp only [true_and]
    have ha : ([whF c, whF d].all fun o => btB (oD o) 1 1000000) = (allIn 1 1000000 [whF c, whF d]).isSome := allIn_bt
    refine ⟨.inl rfl, (!decide (a = "bench")) || !(allIn 1 1000000 [whF c, whF d]).isSome, fun _ => ⟨_, at_int (by decide) rfl, .inl rfl, !(allIn 1 1000000 [whF c, whF d]).isSome, fun _ => ?_, rfl, rfl⟩, fun z => ?_, fun z => ?_⟩
    · refine .each [whF c, whF d] oD rfl (fun o => .bl (btB (oD o) 1 1000000)) (fun j a hj => ⟨fun _ => ⟨_, rfl, tyD_oD, all_one hj, rfl⟩, fun z => nomatch z⟩) ?_
      refine ⟨[whF c, whF d].map fun o => btB (oD o) 1 1000000, by rw [List.map_map]; rfl, ?_, rfl⟩
      rw [← ha, List.all_map]
      rfl
    · have z : (false || ((!decide (a = "bench")) || !(allIn 1 1000000 [whF c, whF d]).isSome)) = true := z
      have hn : hdF ⟨some b, sm, sB, sC⟩ [a, c, d] = none := by
        rw [hd]
        split
        · rename_i e
          rw [if_neg fun q => ?_]
          rw [e] at z
          simp [q] at z
        · rfl
      rw [hn] at h
      exact h
    have z : (false || ((!decide (a = "bench")) || !(allIn 1 1000000 [whF c, whF d]).isSome)) = false := z
    simp only [Bool.false_or, Bool.or_eq_false_iff, Bool.not_eq_false', decide_eq_true_eq] at z
    obtain ⟨xs, e⟩ := Option.isSome_iff_exists.mp z.2
    obtain ⟨e1, e2, e3⟩ := allIn_some e
    match xs, e3, e, e1 with
    | [l, w'], _, e, e1 =>
    rw [e] at hd
    have hn : hdF ⟨some b, sm, sB, sC⟩ [a, c, d] = some (⟨some b, some (l, w'), sB, sC⟩ : PS) := by
      rw [hd]
      simp only
      rw [if_pos z.1]
    rw [hn] at h
    walk_at "nf"
    refine ⟨rfl, ⟨by decide, by decide⟩, _, rfl, 1, rfl, ?_⟩
    have h : Q (.fz (.bl true)) [.nd (.dK plK) [.fz (.int b), .fz (.nd .lst (([(l, w').1, (l, w').2] : List Int).map D.int)), .ow .lst (sB.map bedD), cosT sC]] := h
    rw [show ([(l, w').1, (l, w').2] : List Int).map D.int = [whF c, whF d].map oD from e1.symm] at h
    exact h
theorem ok_row_taken (Df : DefAt K mg "row_taken" s_row_taken ["plan", "words"]) (B : Bt mg) (C_place_in : Callee P w K mg base 4 "place_in" ["words"] [] plInS) (C_head_taken : Callee P w K mg base 4 "head_taken" ["plan", "words"] [0] headS) (C_bed_in : Callee P w K mg base 5 "bed_in" ["words"] [] bdInS) (C_whole_in : Callee P w K mg base 1 "whole_in" ["word"] [] wholeInS) (C_is_measure : Callee P w K mg base 3 "is_measure" ["thing"] [] measureS) : Callee P w K mg base 6 "row_taken" ["plan", "words"] [0] rowTS := by
  refine callee_of Df sc_row_taken (by decide) (by decide) fun f cdv A outer s H EX W hr hG tk hp => ?_
  refine ⟨_, (ss_cons (s_if (t_isN (p_ixD (hu65 hr) (p_nm 0) q_str) (q_non).p) (ss_one (s_ret (q_callC C_head_taken tk (hr.mono (by decide)) hG (by rfl) (a_own 0 (a_cons (p_nm 1).val a_nil)) [0]))) ss_nil)
      (ss_cons (s_set 2 (q_aliasN 0 (p_ixD (hu65 hr) (p_nm 0) q_str)) sc_row_taken.nd)
      (ss_cons (s_if (t_eq (hu65 hr) ((q_ixA (hu65 hr) (p_nm 1) (q_int).p)).p (q_str).p) (ss_cons (s_set 3 (q_callC C_bed_in tk (hr.mono (by decide)) hG (by rfl) (a_cons (p_nm 1).val a_nil) []) sc_row_taken.nd)
      (ss_cons (s_if ((w_orM (t_isN (p_nm 3) (q_non).p) (w_orM (t_neV (hu65 hr) (p_alV 2 0) ((q_lst a_nil)).p) (w_or1 (t_eq (hu65 hr) ((q_b1 c_lenB g_lenB (by rfl) B.len bt_len (p_ixD (hu65 hr) (p_nm 0) q_str))).p ((q_glob (n := 6) (by rfl) B.g_MOST_BEDS_texts)).p))))).t (ss_one (s_ret (q_forget 0 q_bl))) ss_nil)
      (ss_cons (s_expr (q_appP 0 (p_ixD (hu65 hr) (p_nm 0) q_str) (p_nm 3).val))
      (ss_one (s_ret (q_forget 0 q_bl)))))) ss_nil)
      (ss_cons (s_if (t_eq (hu65 hr) ((q_ixA (hu65 hr) (p_nm 1) (q_int).p)).p (q_str).p) (ss_cons (s_set 4 (q_callC C_whole_in tk (hr.mono (by decide)) hG (by rfl) (a_cons (q_ixA (hu65 hr) (p_nm 1) ((q_neg (q_int).p)).p) a_nil) []) sc_row_taken.nd)
      (ss_cons (s_if ((w_orM (t_ne (hu65 hr) ((q_b1 c_lenB g_lenB (by rfl) B.len bt_len (p_nm 1))).p (q_int).p) (w_orM (t_not (t_val (q_callC C_is_measure tk (hr.mono (by decide)) hG (by rfl) (a_cons (p_nm 4).val a_nil) []))) (w_orM (t_eq (hu65 hr) (p_ixD (hu65 hr) (p_nm 0) q_str) ((q_lst a_nil)).p) (w_or1 (t_eq (hu65 hr) ((q_b1 c_lenB g_lenB.vw (by rfl) B.len bt_len (p_alV 2 0))).p ((q_glob (n := 6) (by rfl) B.g_MOST_COURSES_texts)).p)))))).t (ss_one (s_ret (q_forget 0 q_bl))) ss_nil)
      (ss_cons (s_expr (q_appV 0 (p_alV 2 0) (q_tupT (at_cons (p_nm 4).val (at_cons (q_lst a_nil) at_nil)))))
      (ss_one (s_ret (q_forget 0 q_bl)))))) ss_nil)
      (ss_cons (s_set 5 (q_callC C_place_in tk (hr.mono (by decide)) hG (by rfl) (a_cons (p_nm 1).val a_nil) []) sc_row_taken.nd)
      (ss_cons (s_if ((w_orM (t_isN (p_nm 5) (q_non).p) (w_orM (t_eqV (hu65 hr) (p_alV 2 0) ((q_lst a_nil)).p) (w_or1 (t_eq (hu65 hr) ((q_b1 c_lenB g_lenB (by rfl) B.len bt_len (p_ix (p_ixV (p_alV 2 0) ((q_neg (q_int).p)).p) (q_int).p))).p ((q_glob (n := 24) (by rfl) B.g_MOST_PLACES_texts)).p))))).t (ss_one (s_ret (q_forget 0 q_bl))) ss_nil)
      (ss_cons (s_expr (q_appP 0 (p_ix (p_ixV (p_alV 2 0) ((q_neg (q_int).p)).p) (q_int).p) (p_nm 5).val))
      (ss_one (s_ret (q_forget 0 q_bl)))))))))), fun args Q E hl h => ?_⟩
  clear hl hr hG tk hp W EX H s outer A cdv f Df B C_place_in C_head_taken C_bed_in C_whole_in C_is_measure
  obtain ⟨s, ws, rfl, hw, hs, h⟩ := h
  walk_at "nf"
  refine ⟨_, rfl, 1, rfl, _, rfl, fun z => ?_, fun z => ?_⟩
  · have hm : s.m = none := by
      have z : nonD (mD s.m) = true := z
      cases e : s.m with
      | none => rfl
      | some p => rw [e] at z; cases z
    have hr : rowF' s ws = hdF s ws := by unfold rowF'; rw [hm]
    rw [hr] at h
    exact ⟨s, ws, rfl, hw, hm, h⟩
  have hm : s.m ≠ none := fun e => by
    have z : nonD (mD s.m) = false := z
    rw [e] at z
    cases z
  walk_at "nf"
  have e0 : planT s = .nd (.dK plK) [.fz (oD s.b), .fz (mD s.m), .ow .lst (s.B.map bedD), cosT s.C] := rfl
  rw [e0]
  refine ⟨_, rfl, 3, rfl, _, rfl, ?_, fun a => ?_⟩
  · unfold cosT
    split <;> rfl
  walk_at "nf"
  have hput : T.put (.nd (.dK plK) [.fz (oD s.b), .fz (mD s.m), .ow .lst (s.B.map bedD), cosT s.C]) ([] ++ [3]) ((cosT s.C).rek (.lsA a)) = trP s (s.B.map bedD) ((cosT s.C).rek (.lsA a)) := tr_put
  rw [hput]
  have hpos := List.length_pos_iff.mpr hw.1
  have hw0 := map_get (getD_at (ws := ws) (k := 0) hpos)
  have hcp := pl_cos' hs.wc hs.lc
  have hvd : (vw ((cosT s.C).rek (.lsA a))).d = cosD s.C := by rw [vw_rek, cosT_d]
  have hback : ∀ Bs, T.put (trP s Bs ((cosT s.C).rek (.lsA a))) [3] (((cosT s.C).rek (.lsA a)).rek .lst) = trP s Bs (cosT s.C) := fun Bs => by rw [rek_rek]; exact tr_put
  have hmm : ∃ m, s.m = some m := Option.ne_none_iff_exists'.mp hm
  obtain ⟨m, hmm⟩ := hmm
  refine ⟨_, at_int (by decide) hw0, .inl rfl, fun z => ?_, fun z => ?_⟩
  · have z0 := str_eq z
    have hr : rowF' s ws = match bdF ws with
        | some b => if s.C = [] ∧ s.B.length ≠ 6 then some { s with B := s.B ++ [b] } else none
        | none => none := by
      unfold rowF'
      rw [hmm]
      simp only
      rw [if_pos z0]
      all_goals (cases bdF ws <;> rfl)
    refine ⟨ws, rfl, hw, ?_⟩
    walk_at "nf"
    refine ⟨(!eqD (vw ((cosT s.C).rek (.lsA a))).d (.nd .lst [])) || decide ((((s.B.map bedD).length : Nat) : Int) = 6), fun _ => ⟨[3], a, _, _, rfl, rfl, tr_sub, root_rek, .inr ⟨by rw [hvd]; exact hcp, by decide⟩, decide ((((s.B.map bedD).length : Nat) : Int) = 6), fun _ => (by refine ⟨_, rfl, 2, rfl, .ow .lst (s.B.map bedD), rfl, ?_⟩; refine len_own ?_; exact ⟨.inl rfl, rfl, rfl⟩), rfl, rfl⟩, fun z => ?_, fun z => ?_⟩
    · have z : (nonD (bdD ws) || ((!eqD (vw ((cosT s.C).rek (.lsA a))).d (.nd .lst [])) || decide ((((s.B.map bedD).length : Nat) : Int) = 6))) = true := z
      rw [hvd, eq_nilC, List.length_map] at z
      have hn : rowF' s ws = none := by
        rw [hr]
        cases e : bdF ws with
        | none => rfl
        | some b =>
          simp only
          rw [if_neg fun q => ?_]
          have e2 : bdD ws = bedD b := by unfold bdD; rw [e]
          rw [e2, decide_eq_true q.1, decide_eq_false (fun w => q.2 (by omega))] at z
          cases z
      rw [hn] at h
      refine ⟨[3], a, _, _, rfl, tr_sub, root_rek, ?_⟩
      rw [hback]
      exact h
    have z : (nonD (bdD ws) || ((!eqD (vw ((cosT s.C).rek (.lsA a))).d (.nd .lst [])) || decide ((((s.B.map bedD).length : Nat) : Int) = 6))) = false := z
    rw [hvd, eq_nilC, List.length_map] at z
    simp only [Bool.or_eq_false_iff, Bool.not_eq_false', decide_eq_true_eq, decide_eq_false_iff_not] at z
    obtain ⟨b, eb, ebd⟩ := bdD_some z.1
    have hn : rowF' s ws = some { s with B := s.B ++ [b] } := by
      rw [hr, eb]
      simp only
      rw [if_pos ⟨z.2.1, fun w => z.2.2 (by omega)⟩]
    rw [hn] at h
    rw [ebd]
    walk_at "nf"
    refine ⟨_, rfl, 2, rfl, _, rfl, rfl, by rw [List.length_map]; exact Nat.lt_of_le_of_lt hs.lb (by decide), ?_⟩
    walk_at "nf"
    rw [show ([] ++ [2] : List Nat) = [2] from rfl, tr_put2]
    refine ⟨[3], a, _, _, rfl, tr_sub, root_rek, ?_⟩
    rw [hback]
    have e : (s.B ++ [b]).map bedD = s.B.map bedD ++ [bedD b] := by simp
    have h : Q (.fz (.bl true)) [trP s ((s.B ++ [b]).map bedD) (cosT s.C)] := h
    rw [e] at h
    exact h
  have hbed := str_ne z
  walk_at "nf"
  refine ⟨_, at_int (by decide) hw0, .inl rfl, fun z => ?_, fun z => ?_⟩
  · have z0 := str_eq z
    have hr : rowF' s ws = match whF (lastW ws) with
        | some hh => if ws.length = 2 ∧ (1 ≤ hh ∧ hh ≤ 1000000) ∧ s.B ≠ [] ∧ s.C.length ≠ 6 then some { s with C := s.C ++ [⟨hh, []⟩] } else none
        | none => none := by
      unfold rowF'
      rw [hmm]
      simp only
      rw [if_neg hbed, if_pos z0]
      all_goals (cases whF (lastW ws) <;> rfl)
    have hlast : lastW ws ∈ ws := List.mem_of_getElem? (getD_at (by omega))
    refine ⟨_, at_lastW hw.1, _, rfl, hw.2.2 _ hlast, ?_⟩
    walk_at "nf"
    have hbp := pl_beds' hs.wb hs.lb
    refine ⟨.inl rfl, (!btB (oD (whF (lastW ws))) 1 1000000) || (eqD (bedsD s.B) (.nd .lst []) || decide (((s.C.length : Nat) : Int) = 6)), fun _ => ⟨_, rfl, tyD_oD, eqD (bedsD s.B) (.nd .lst []) || decide (((s.C.length : Nat) : Int) = 6), fun _ => ⟨_, rfl, 2, rfl, .ow .lst (s.B.map bedD), rfl, .inr ⟨hbp, by decide⟩, decide (((s.C.length : Nat) : Int) = 6), fun _ => ⟨[3], a, _, _, rfl, rfl, tr_sub, root_rek, len_cos ⟨.inl rfl, rfl, rfl⟩⟩, rfl, rfl⟩, rfl, rfl⟩, fun z => ?_, fun z => ?_⟩
    · have z : ((!decide ((((ws.map D.str).length : Nat) : Int) = ((2 : Nat) : Int))) || ((!btB (oD (whF (lastW ws))) 1 1000000) || (eqD (bedsD s.B) (.nd .lst []) || decide (((s.C.length : Nat) : Int) = 6)))) = true := z
      rw [lenB, eq_nilB] at z
      have hn : rowF' s ws = none := by
        rw [hr]
        cases e : whF (lastW ws) with
        | none => rfl
        | some hh =>
          simp only
          rw [if_neg fun q => ?_]
          have c1 : btB (oD (some hh)) 1 1000000 = true := btI.mpr q.2.1
          rw [e, c1, decide_eq_true q.1, decide_eq_false q.2.2.1, decide_eq_false (fun w => q.2.2.2 (by omega))] at z
          cases z
      rw [hn] at h
      refine ⟨[3], a, _, _, rfl, tr_sub, root_rek, ?_⟩
      rw [hback]
      exact h
    have z : ((!decide ((((ws.map D.str).length : Nat) : Int) = ((2 : Nat) : Int))) || ((!btB (oD (whF (lastW ws))) 1 1000000) || (eqD (bedsD s.B) (.nd .lst []) || decide (((s.C.length : Nat) : Int) = 6)))) = false := z
    rw [lenB, eq_nilB] at z
    simp only [Bool.or_eq_false_iff, Bool.not_eq_false', decide_eq_true_eq, decide_eq_false_iff_not] at z
    obtain ⟨hh, eh, hhb⟩ := bt_some z.2.1
    have hn : rowF' s ws = some { s with C := s.C ++ [⟨hh, []⟩] } := by
      rw [hr, eh]
      simp only
      rw [if_pos ⟨z.1, hhb, z.2.2.1, fun w => z.2.2.2 (by omega)⟩]
    rw [hn] at h
    rw [eh]
    walk_at "nf"
    refine ⟨[3], a, _, _, rfl, rfl, tr_sub, root_rek, isA_rek, ?_⟩
    walk_at "nf"
    by_cases hC : s.C = []
    · have e5 : (cosT s.C).rek (.lsA a) = .ow (.lsA a) [] := by rw [hC]; rfl
      rw [e5]
      refine ⟨by decide, ?_⟩
      walk_at "nf"
      rw [tr_put]
      refine ⟨[3], a, _, _, rfl, tr_sub, rfl, ?_⟩
      rw [tr_put]
      rw [hC] at h
      exact h
    · rw [rek_nd hC]
      refine ⟨by rw [List.length_map]; exact Nat.lt_of_le_of_lt hs.lc (by decide), ?_⟩
      walk_at "nf"
      rw [tr_put]
      refine ⟨[3], a, _, _, rfl, tr_sub, rfl, ?_⟩
      rw [tr_put]
      have h : Q (.fz (.bl true)) [trP s (s.B.map bedD) (cosT (s.C ++ [⟨hh, []⟩]))] := h
      have e6 : cosT (s.C ++ [(⟨hh, []⟩ : Co)]) = .nd .lst (s.C.map coT ++ [coT ⟨hh, []⟩]) := by unfold cosT; rw [if_neg (by simp), List.map_append]; rfl
      rw [e6] at h
      exact h
  have hcou := str_ne z
  refine ⟨ws, rfl, hw, ?_⟩
  walk_at "nf"
  have hr : rowF' s ws = match placF ws with
      | some p => if s.C ≠ [] ∧ (s.C.getLastD ⟨0, []⟩).ps.length ≠ 24 then some { s with C := addP s.C p } else none
      | none => none := by
    unfold rowF'
    rw [hmm]
    simp only
    rw [if_neg hbed, if_neg hcou]
    all_goals (cases placF ws <;> rfl)
  by_cases hC : s.C = []
  · have hn : rowF' s ws = none := by
      rw [hr]
      cases placF ws with
      | none => rfl
      | some p => simp only; rw [if_neg fun q => q.1 hC]
    have hz : eqD (cosD s.C) (.nd .lst []) = true := by rw [eq_nilC, decide_eq_true hC]
    refine ⟨true, fun _ => ⟨[3], a, _, _, rfl, rfl, tr_sub, root_rek, .inr ⟨by rw [hvd]; exact hcp, by decide⟩, true, fun z => ?_, ?_, rfl⟩, fun z => ?_, fun z => ?_⟩
    · exfalso
      have z : eqD (vw ((cosT s.C).rek (.lsA a))).d (.nd .lst []) = false := z
      rw [hvd, hz] at z
      cases z
    · show (eqD (vw ((cosT s.C).rek (.lsA a))).d (.nd .lst []) || true) = true
      rw [Bool.or_true]
    · rw [hn] at h
      refine ⟨[3], a, _, _, rfl, tr_sub, root_rek, ?_⟩
      rw [hback]
      exact h
    · rw [Bool.or_true] at z
      cases z
  have heq : eqD (vw ((cosT s.C).rek (.lsA a))).d (.nd .lst []) = false := by rw [hvd, eq_nilC, decide_eq_false hC]
  have hcp2 : (vw ((cosT s.C).rek (.lsA a))).d.pl 64 = true := by rw [hvd]; exact hcp
  have hback2 : ∀ C', C' ≠ [] → T.put (trP s (s.B.map bedD) (.nd (.lsA a) (C'.map coT))) [3] (T.rek .lst (.nd (.lsA a) (C'.map coT))) = trP s (s.B.map bedD) (cosT C') := fun C' h' => by
    rw [tr_put]
    unfold cosT
    rw [if_neg h']
    rfl
  obtain ⟨C0, c, eC, _, elast⟩ := addP_snoc (p := ⟨0, 0, 0, "", ""⟩) hC
  rw [rek_nd hC] at heq hcp2
  rw [rek_nd hC]
  have hj : ixN (s.C.map coT).length (-1) = some (s.C.length - 1) := by
    have := ix_last (l := s.C.map coT) (by simp [hC])
    rwa [List.length_map] at this ⊢
  have hl1 : s.C.length - 1 = C0.length := by rw [eC]; simp
  have hget : (s.C.map coT)[s.C.length - 1]? = some (coT c) := by rw [hl1, eC]; simp
  rw [elast] at hr
  refine ⟨decide ((((c.ps.map plD).length : Nat) : Int) = 24), fun _ => ⟨[3], a, _, _, rfl, rfl, tr_sub, rfl, .inr ⟨hcp2, by decide⟩, decide ((((c.ps.map plD).length : Nat) : Int) = 24), fun _ => (by refine ⟨[3], a, _, _, rfl, rfl, tr_sub, rfl, _, hj, _, hget, 1, rfl, .ow .lst (c.ps.map plD), rfl, ?_⟩; refine len_own ?_; exact ⟨.inl rfl, rfl, rfl⟩), ?_, rfl⟩, fun z => ?_, fun z => ?_⟩
  · show (eqD (vw (.nd (.lsA a) (s.C.map coT))).d (.nd .lst []) || decide ((((c.ps.map plD).length : Nat) : Int) = 24)) = _
    rw [heq, Bool.false_or]
  · have z : (nonD (plcD ws) || decide ((((c.ps.map plD).length : Nat) : Int) = 24)) = true := z
    rw [List.length_map] at z
    have hn : rowF' s ws = none := by
      rw [hr]
      cases e : placF ws with
      | none => rfl
      | some p =>
        simp only
        rw [if_neg fun q => ?_]
        have e2 : plcD ws = plD p := by unfold plcD; rw [e]
        rw [e2, decide_eq_false (fun w => q.2 (by omega))] at z
        cases z
    rw [hn] at h
    refine ⟨[3], a, _, _, rfl, tr_sub, rfl, ?_⟩
    rw [hback2 _ hC]
    exact h
  have z : (nonD (plcD ws) || decide ((((c.ps.map plD).length : Nat) : Int) = 24)) = false := z
  rw [List.length_map] at z
  simp only [Bool.or_eq_false_iff, decide_eq_false_iff_not] at z
  obtain ⟨pp, ep, epd⟩ := plD_some z.1
  have hn : rowF' s ws = some { s with C := addP s.C pp } := by
    rw [hr, ep]
    simp only
    rw [if_pos ⟨hC, fun w => z.2 (by omega)⟩]
  rw [hn] at h
  rw [epd]
  walk_at "nf"
  have hw24 := (hs.wc c (by rw [eC]; simp)).2.2
  refine ⟨[3], a, _, _, rfl, rfl, tr_sub, rfl, _, hj, _, hget, 1, rfl, .ow .lst (c.ps.map plD), rfl, rfl, by rw [List.length_map]; exact Nat.lt_of_le_of_lt hw24 (by decide), ?_⟩
  walk_at "nf"
  obtain ⟨C1, c1, eC1, eadd, elast1⟩ := addP_snoc (p := pp) hC
  have ec : C1 = C0 ∧ c1 = c := by
    have := eC1.symm.trans eC
    have := List.append_inj' this rfl
    exact ⟨this.1, by simpa using this.2⟩
  obtain ⟨rfl, rfl⟩ := ec
  have hpl : T.put (trP s (s.B.map bedD) (.nd (.lsA a) (s.C.map coT))) ([] ++ [3] ++ [s.C.length - 1] ++ [1]) (.ow .lst (c1.ps.map plD ++ [plD pp])) = trP s (s.B.map bedD) (.nd (.lsA a) ((addP s.C pp).map coT)) := by
    rw [eadd, hl1, eC]
    exact put_last
  have hpl : T.put (trP s (s.B.map bedD) (.nd (.lsA a) (s.C.map coT))) ([3] ++ [s.C.length - 1] ++ [1]) (.ow .lst (c1.ps.map plD ++ [plD pp])) = trP s (s.B.map bedD) (.nd (.lsA a) ((addP s.C pp).map coT)) := hpl
  rw [hpl]
  refine ⟨[3], a, _, _, rfl, tr_sub, rfl, ?_⟩
  rw [hback2 _ (by rw [eadd]; simp)]
  exact h
theorem ok_read_plan (Df : DefAt K mg "read_plan" s_read_plan ["text"]) (B : Bt mg) (R_NoPlan : BareG1 P w K mg base 1 "NoPlan" (ca "NoPlan") "at" ["self", "at"]) (R_Wrong : BareG1 P w K mg base 1 "Wrong" (ca "Wrong") "at" ["self", "at"]) (C_Bench_init : CalleeK P w K mg base 7 "Bench" (ca "Bench") ["self", "length", "width", "beds"] (initXB ca)) (C_Wall_init : CalleeK P w K mg base 8 "Wall" (ca "Wall") ["self", "courses"] (initX ca)) (C_row_taken : Callee P w K mg base 6 "row_taken" ["plan", "words"] [0] rowTS) : Callee P w K mg base 10 "read_plan" ["text"] [] (readPS ca) := by
  refine callee_of Df sc_read_plan (by decide) (by decide) fun f cdv A outer s H EX W hr hG tk hp => ?_
  refine ⟨_, (ss_cons (s_if (t_not (t_val (q_isi ki_str (by rfl) B.isinstance (by rfl) B.str bt_str (p_nm 0)))) (ss_one (s_raise1 ⟨R_Wrong.1, R_Wrong.2, R_Wrong.3⟩ tk rfl (hr.mono (by decide)) (by rfl) q_int passes0)) ss_nil)
      (ss_cons (s_set 1 ((q_split (p_nm 0).val (q_str).p)).fz sc_read_plan.nd)
      (ss_cons (s_set 2 (q_sub ((q_b1 c_lenB g_lenB (by rfl) B.len bt_len (p_nm 1))).p (q_int).p) sc_read_plan.nd)
      (ss_cons (s_set 3 (q_disT (pt_cons q_str q_non (pt_cons q_str q_non (pt_cons q_str (q_lst a_nil) (pt_cons q_str (q_lst a_nil) pt_nil))))) sc_read_plan.nd)
      (ss_cons (s_for hp rfl (i_enum (by rfl) B.enumerate ((q_slice (p_nm 1) o_none (o_some (p_nm 2).val))).fz) (g_tup (n := 2) rfl (gs_cons (g_name 4 sc_read_plan.nd) (gs_cons (g_name 5 sc_read_plan.nd) gs_nil))) (ss_one (s_if (t_not (t_val (q_callC C_row_taken tk (hr.mono (by decide)) hG (by rfl) (a_own 3 (a_cons ((q_split (p_nm 5).val (q_str).p)).fz a_nil)) [3]))) (ss_one (s_raise1 ⟨R_NoPlan.1, R_NoPlan.2, R_NoPlan.3⟩ tk rfl (hr.mono (by decide)) (by rfl) (p_nm 4).val passes0)) ss_nil)))
      (ss_cons (s_if ((w_orM (t_eq (hu65 hr) (p_ixD (hu65 hr) (p_nm 3) q_str) ((q_lst a_nil)).p) (w_or1 (t_ne (hu65 hr) ((q_ixA (hu65 hr) (p_nm 1) (p_nm 2))).p (q_str).p)))).t (ss_one (s_raise1 ⟨R_NoPlan.1, R_NoPlan.2, R_NoPlan.3⟩ tk rfl (hr.mono (by decide)) (by rfl) (p_nm 2).val passes0)) ss_nil)
      (ss_cons (s_set 6 ((q_make C_Bench_init tk (hr.mono (by decide)) hG (by rfl) (a_cons (q_ixA (hu65 hr) (p_ixD (hu65 hr) (p_nm 3) q_str) (q_int).p) (a_cons (q_ixA (hu65 hr) (p_ixD (hu65 hr) (p_nm 3) q_str) (q_int).p) (a_cons (q_frzP 3 (p_ixD (hu65 hr) (p_nm 3) q_str)) a_nil))))).fz sc_read_plan.nd)
      (ss_one (s_ret (q_tup (a_cons (p_nm 6).val (a_cons ((q_make C_Wall_init tk (hr.mono (by decide)) hG (by rfl) (a_cons (q_frzP 3 (p_ixD (hu65 hr) (p_nm 3) q_str)) a_nil))).fz (a_cons ((p_ixD (hu65 hr) (p_nm 3) q_str)).val a_nil))))))))))))), fun args Q E hl h => ?_⟩
  clear hl hr hG tk hp W EX H s outer A cdv f Df B R_NoPlan R_Wrong C_Bench_init C_Wall_init C_row_taken
  obtain ⟨d, rfl, ht, hz, hr, h⟩ := h
  walk_at "nf"
  by_cases hd : ∃ x, d = .str x
  rotate_left
  · refine ⟨false, ks_none ht fun x e => hd ⟨x, e⟩, fun _ => ?_, fun z => nomatch z⟩
    exact hr fun x e => hd ⟨x, e⟩
  obtain ⟨x, rfl⟩ := hd
  refine ⟨true, rfl, fun z => (nomatch z), fun _ => ?_⟩
  have h := h x rfl
  have hz := hz x rfl
  walk_at "nf"
  refine ⟨_, rfl, by decide, szT hz, ?_⟩
  walk_at "nf"
  refine ⟨⟨_, rfl⟩, ⟨_, rfl⟩, ⟨_, rfl⟩, ⟨_, rfl⟩, ⟨by decide, by decide⟩, ?_⟩
  walk_at "nf"
  have hcut : cutL ((Txt.split x "\n").map D.str) none (some (((((Txt.split x "\n").map D.str).length : Nat) : Int) - 1)) = ((Txt.split x "\n").take ((Txt.split x "\n").length - 1)).map D.str := by
    rw [List.length_map, cut_take (by have := List.length_pos_iff.mpr (split_ne (x := x) (y := "\n")); omega), List.map_take]
    congr 1
    omega
  have hR : ∀ r, r ∈ (Txt.split x "\n").take ((Txt.split x "\n").length - 1) → wsOk (Txt.split r " ") := fun r hr => split_ws hz (List.mem_of_mem_take hr)
  unfold plRes at h
  generalize hRs : (Txt.split x "\n").take ((Txt.split x "\n").length - 1) = Rs at *
  refine .fr [3, 4, 5] (fun j vs => ∃ a b s, vs = [some (planT s), a, b] ∧ psOk s ∧ foldR PS.nil (Rs.take j) 0 = .inr s) ⟨[_, _, _], rfl, _, _, PS.nil, rfl, nil_ok, rfl⟩ ?_ ?_
  · rintro j d vs hd ⟨a, b, s, rfl, hs, hf⟩
    obtain ⟨e, he, rfl⟩ := enumD_get hd
    have he : (cutL ((Txt.split x "\n").map D.str) none (some (((((Txt.split x "\n").map D.str).length : Nat) : Int) - 1)))[j]? = some e := he
    rw [hcut, List.getElem?_map] at he
    obtain ⟨r, hr, rfl⟩ := Option.map_eq_some_iff.mp he
    have hrm := List.mem_of_getElem? hr
    refine ⟨rfl, ?_⟩
    walk_at "nf"
    have hsp := hR r hrm
    refine ⟨_, rfl, by decide, szT (Nat.le_trans (split_part (y := "\n") (by rw [← hRs] at hrm; exact List.mem_of_mem_take hrm)) hz), s, Txt.split r " ", rfl, hsp, hs, ?_⟩
    have htk : Rs.take (j + 1) = Rs.take j ++ [r] := by rw [List.take_succ, hr]; rfl
    cases q : rowF' s (Txt.split r " ") with
    | none =>
      refine ⟨fun _ => ?_, fun z => nomatch z⟩
      have hsplit : Rs = Rs.take j ++ r :: Rs.drop (j + 1) := by
        have hl := (List.getElem?_eq_some_iff.mp hr).1
        have e1 : Rs[j] = r := (List.getElem?_eq_some_iff.mp hr).2
        rw [← e1, ← List.drop_eq_getElem_cons hl, List.take_append_drop]
      have hb := foldR_bad (ts := Rs.drop (j + 1)) hf q
      rw [← hsplit] at hb
      rw [hb] at h
      have ej : 0 + (Rs.take j).length = j := by
        rw [List.length_take]
        have := (List.getElem?_eq_some_iff.mp hr).1
        omega
      simp only [ej] at h
      exact h
    | some s' =>
      refine ⟨fun z => (nomatch z), fun _ => ?_⟩
      exact ⟨[_, _, _], rfl, _, _, s', rfl, row_psok hs q, by rw [htk, foldR_snoc hf, q]⟩
  · rintro vs ⟨a, b, s, rfl, hs, hf⟩
    walk_at "nf"
    have hlen : (enumD (cutL ((Txt.split x "\n").map D.str) none (some (((((Txt.split x "\n").map D.str).length : Nat) : Int) - 1)))).length = Rs.length := by
      rw [hcut]
      simp [enumD]
    have hf : foldR PS.nil (Rs.take (enumD (cutL ((Txt.split x "\n").map D.str) none (some (((((Txt.split x "\n").map D.str).length : Nat) : Int) - 1)))).length) 0 = .inr s := hf
    rw [hlen, List.take_length] at hf
    rw [hf] at h
    simp only at h
    obtain ⟨sb, sm, sB, sC⟩ := s
    have hpos := List.length_pos_iff.mpr (split_ne (x := x) (y := "\n"))
    have hlast : ((Txt.split x "\n").map D.str)[(Txt.split x "\n").length - 1]? = some (.str ((Txt.split x "\n").getD ((Txt.split x "\n").length - 1) "")) := map_get (getD_at (by omega))
    have hi : (((((Txt.split x "\n").map D.str).length : Nat) : Int) - 1).toNat = (Txt.split x "\n").length - 1 := by rw [List.length_map]; omega
    have hi2 : ((((Txt.split x "\n").map D.str).length : Nat) : Int) - 1 = (((Txt.split x "\n").length - 1 : Nat) : Int) := by rw [List.length_map]; omega
    have hcd : (cosT sC).d = cosD sC := cosT_d
    refine ⟨_, rfl, 3, rfl, _, rfl, .inr ⟨by rw [hcd]; exact pl_cos' hs.wc hs.lc, by decide⟩, !decide ((Txt.split x "\n").getD ((Txt.split x "\n").length - 1) "" = ""), fun _ => ⟨_, at_int (by rw [hi2]; omega) (by rw [hi]; exact hlast), .inl rfl, rfl, rfl⟩, fun z => ?_, fun z => ?_⟩
    · have z : (eqD (cosT sC).d (.nd .lst []) || !decide ((Txt.split x "\n").getD ((Txt.split x "\n").length - 1) "" = "")) = true := z
      rw [hcd, eq_nilC] at z
      rw [if_pos (by simpa using z)] at h
      show E ⟨ca "NoPlan", ["at"], [.int (((((Txt.split x "\n").map D.str).length : Nat) : Int) - 1)]⟩ []
      rw [hi2]
      exact h
    have z : (eqD (cosT sC).d (.nd .lst []) || !decide ((Txt.split x "\n").getD ((Txt.split x "\n").length - 1) "" = "")) = false := z
    rw [hcd, eq_nilC] at z
    simp only [Bool.or_eq_false_iff, decide_eq_false_iff_not, Bool.not_eq_false', decide_eq_true_eq] at z
    rw [if_neg (by rintro (q | q); exact z.1 q; exact q z.2)] at h
    have hC : sC ≠ [] := z.1
    have hB : sB ≠ [] := hs.cb hC
    cases sm with
    | none => exact absurd rfl (hs.bm hB)
    | some m =>
    obtain ⟨L, W⟩ := m
    cases sb with
    | none => exact absurd rfl (hs.mb (fun z => nomatch z))
    | some b' =>
    have h := h L W b' rfl rfl
    have hml := hs.m L W rfl
    have hwk : weak L W sB := ⟨hml.1, hml.2, ⟨List.length_pos_iff.mpr hB, hs.lb⟩, hs.wb⟩
    have hww : weakW sC := ⟨⟨List.length_pos_iff.mpr hC, hs.lc⟩, hs.wc⟩
    walk_at "nf"
    refine ⟨_, rfl, 1, rfl, _, rfl, ?_⟩
    refine ⟨_, at_int (by decide) rfl, ?_⟩
    refine ⟨_, rfl, 1, rfl, _, rfl, ?_⟩
    refine ⟨_, at_int (by decide) rfl, ?_⟩
    refine ⟨_, rfl, 2, rfl, _, rfl, ?_⟩
    refine ⟨_, rfl, rfl, ?_⟩
    refine ⟨.int L, .int W, bedsD sB, rfl, ?_, .inr ⟨L, W, sB, rfl, rfl, rfl, ?_, fun k e o => ?_, fun e o => ?_, fun e hok => ?_⟩⟩
    · exact gds_ok hwk
    · exact hwk
    · have e : duF L W sB = .bed k := e
      rw [e] at h
      exact h
    · have e : duF L W sB = .many := e
      rw [e] at h
      exact h
    refine ⟨rfl, _, rfl, ?_⟩
    walk_at "nf"
    have hp2 : (planT ⟨some b', some (L, W), sB, sC⟩).put ([] ++ [2]) (.fz (T.ow .lst (sB.map bedD)).d) = .nd (.dK plK) [.fz (.int b'), .fz (mD (some (L, W))), .fz (bedsD sB), cosT sC] := put_one (k := .dK plK) (ts := [.fz (.int b'), .fz (mD (some (L, W))), .ow .lst (sB.map bedD), cosT sC]) (j := 2) (t := .ow .lst (sB.map bedD)) (u := .fz (bedsD sB)) rfl
    rw [hp2]
    have hp3 : T.put (.nd (.dK plK) [.fz (.int b'), .fz (mD (some (L, W))), .fz (bedsD sB), cosT sC]) ([] ++ [3]) (.fz (cosT sC).d) = .nd (.dK plK) [.fz (.int b'), .fz (mD (some (L, W))), .fz (bedsD sB), .fz (cosD sC)] := by
      have := put_one (k := .dK plK) (ts := [.fz (.int b'), .fz (mD (some (L, W))), .fz (bedsD sB), cosT sC]) (j := 3) (t := cosT sC) (u := .fz (cosT sC).d) rfl
      rw [this, cosT_d]
      rfl
    refine ⟨_, rfl, 3, rfl, _, rfl, _, rfl, by simp only [T.sub, Tsub, List.nil_append], ?_⟩
    rw [hp3, cosT_d]
    have h0 := h
    rw [show duF L W (⟨some b', some (L, W), sB, sC⟩ : PS).B = .told from e] at h0
    simp only at h0
    refine ⟨cosD sC, rfl, big_cos hww, .inr ⟨sC, rfl, hww, fun m e2 o => ?_, fun e2 o => ?_, fun m e2 o => ?_, fun e2 hok2 => ?_⟩⟩
    · rw [e2] at h0
      exact h0
    · rw [e2] at h0
      exact h0
    · rw [e2] at h0
      exact h0
    rw [e2] at h0
    refine ⟨rfl, _, rfl, ?_⟩
    walk_at "nf"
    exact ⟨_, rfl, 0, rfl, _, rfl, h0 hok hok2⟩

theorem ok_joints_text (Df : DefAt K mg "_law_joints_text" s_joints_text ["_law_joints"]) (B : Bt mg) : Callee P w K mg base 1 "_law_joints_text" ["_law_joints"] [] shjS := by
  refine callee_of Df sc_joints_text (by decide) (by decide) fun f cdv A outer s H EX W hr hG tk hp => ?_
  refine ⟨_, (ss_cons (s_if (t_eq (hu65 hr) (p_nm 0) ((q_lst a_nil)).p) (ss_one (s_ret q_str)) ss_nil)
      (ss_one (s_ret (q_join q_str ((q_lc (own := [("_law_spot", 1)]) rfl sc_joints_text.nd (i_list (p_nm 0).val) (blkOk_by (by rfl)) (fun _ _ _ _ _ => (g_name 1 sc_joints_text.nd)) (fun _ _ _ _ _ => ts_nil) (fun _ _ _ _ _ => (q_ty1 call_str_int g_strI (by rfl) B.str bt_str (p_nm 1))))).p)))), fun args Q E hl h => ?_⟩
  clear hl hr hG tk hp W EX H s outer A cdv f Df B
  obtain ⟨xs, rfl, hx, h⟩ := h
  walk_at "nf"
  have hp := (sml_ints (n := 63) hx.2 hx.1).1
  refine ⟨.inr ⟨hp, by decide⟩, fun z => ?_, fun z => ?_⟩
  · have e : xs = [] := by
      cases xs with
      | nil => rfl
      | cons a r => simp [eqD, eqDs, T.d] at z
    subst e
    exact h
  have e : xs ≠ [] := fun e => by subst e; simp [eqD, eqDs, T.d] at z
  refine .each xs D.int rfl (fun i => D.str (iS i)) (fun j a hj => ⟨fun _ => ⟨a, rfl, iS_log (by have := hx.2 a (List.mem_of_getElem? hj); omega), all_one hj, rfl⟩, fun z => nomatch z⟩) ?_
  refine ⟨xs.map iS, by rw [List.map_map]; rfl, ?_, by unfold jtS at h; rw [if_neg e] at h; exact h⟩
  have h1 := sum_lens (k := 7) (ys := xs.map iS) fun x hx' => by
    obtain ⟨i, hi, rfl⟩ := List.mem_map.mp hx'
    have := hx.2 i hi
    exact iS_len (by decide) this.1 (by omega)
  have h2 := hx.1
  rw [List.length_map] at h1 ⊢
  have h3 : Str.length "," = 1 := rfl
  rw [h3]
  omega
theorem ok_plan_rows (Df : DefAt K mg "_law_plan_rows" s_plan_rows ["_law_length", "_law_width", "_law_beds", "_law_courses", "_law_bears"]) (B : Bt mg) (C_joints_text : Callee P w K mg base 1 "_law_joints_text" ["_law_joints"] [] shjS) : Callee P w K mg base 2 "_law_plan_rows" ["_law_length", "_law_width", "_law_beds", "_law_courses", "_law_bears"] [] lrowsS := by
  refine callee_of Df sc_plan_rows (by decide) (by decide) fun f cdv A outer s H EX W hr hG tk hp => ?_
  refine ⟨_, (ss_cons (s_set 5 (q_lst (a_cons (q_add (q_str).p ((q_ty1 call_str_int g_strI (by rfl) B.str bt_str (p_nm 4))).p) (a_cons (q_add ((q_add ((q_add (q_str).p ((q_ty1 call_str_int g_strI (by rfl) B.str bt_str (p_nm 0))).p)).p (q_str).p)).p ((q_ty1 call_str_int g_strI (by rfl) B.str bt_str (p_nm 1))).p) a_nil))) sc_plan_rows.nd)
      (ss_cons (s_for hp rfl (i_list (p_nm 2).val) (g_tup (n := 5) rfl (gs_cons (g_name 6 sc_plan_rows.nd) (gs_cons (g_name 7 sc_plan_rows.nd) (gs_cons (g_name 8 sc_plan_rows.nd) (gs_cons (g_name 9 sc_plan_rows.nd) (gs_cons (g_name 10 sc_plan_rows.nd) gs_nil)))))) (ss_cons (s_set 11 ((q_lst (a_cons q_str (a_cons (q_ty1 call_str_int g_strI (by rfl) B.str bt_str (p_nm 6)) (a_cons (p_nm 7).val (a_cons (q_ty1 call_str_int g_strI (by rfl) B.str bt_str (p_nm 8)) (a_cons (q_callC C_joints_text tk (hr.mono (by decide)) hG (by rfl) (a_cons (p_nm 9).val a_nil) []) (a_cons (q_callC C_joints_text tk (hr.mono (by decide)) hG (by rfl) (a_cons (p_nm 10).val a_nil) []) a_nil)))))))).fz sc_plan_rows.nd)
      (ss_one (s_expr (q_append 5 (a_cons (q_join q_str (p_nm 11)) a_nil))))))
      (ss_cons (s_for hp rfl (i_list (p_nm 3).val) (g_tup (n := 2) rfl (gs_cons (g_name 6 sc_plan_rows.nd) (gs_cons (g_name 12 sc_plan_rows.nd) gs_nil))) (ss_cons (s_expr (q_append 5 (a_cons (q_add (q_str).p ((q_ty1 call_str_int g_strI (by rfl) B.str bt_str (p_nm 6))).p) a_nil)))
      (ss_one (s_for hp rfl (i_list (p_nm 12).val) (g_tup (n := 5) rfl (gs_cons (g_name 13 sc_plan_rows.nd) (gs_cons (g_name 14 sc_plan_rows.nd) (gs_cons (g_name 15 sc_plan_rows.nd) (gs_cons (g_name 7 sc_plan_rows.nd) (gs_cons (g_name 16 sc_plan_rows.nd) gs_nil)))))) (ss_one (s_expr (q_append 5 (a_cons (q_join q_str ((q_lst (a_cons q_str (a_cons (q_ty1 call_str_int g_strI (by rfl) B.str bt_str (p_nm 13)) (a_cons (q_ty1 call_str_int g_strI (by rfl) B.str bt_str (p_nm 14)) (a_cons (q_ty1 call_str_int g_strI (by rfl) B.str bt_str (p_nm 15)) (a_cons (q_ixA (hu65 hr) ((q_lst (a_cons (p_nm 7).val (a_cons q_str a_nil)))).p ((q_ty1 call_int1 g_int1 (by rfl) B.int bt_int ((q_eq (hu65 hr) (p_nm 7) (q_str).p)).p)).p) (a_cons (p_nm 16).val a_nil)))))))).p) a_nil))))))))
      (ss_one (s_ret (q_fzn 5)))))), fun args Q E hl h => ?_⟩
  clear hl hr hG tk hp W EX H s outer A cdv f Df B C_joints_text
  obtain ⟨L, W, B, C, b, rfl, hB, hC, hb, h⟩ := h
  have hw := ok_weak hB
  have hwc := wall_weak hC
  have hL := hw.1
  have hW := hw.2.1
  unfold M6 at hL hW
  walk_at "nf"
  refine ⟨b, rfl, iS_log2 (by omega), szA (m := 6) (n := 200) (by decide +kernel) (iS_200 (by omega) (by omega)) (by decide), ?_⟩
  refine ⟨L, rfl, iS_log2 (by omega), szA (m := 6) (n := 200) (by decide +kernel) (iS_200 (by omega) (by omega)) (by decide), ?_⟩
  refine ⟨szA (lnA (m := 6) (n := 200) (by decide +kernel) (iS_200 (by omega) (by omega))) l1 (by decide), ?_⟩
  refine ⟨W, rfl, iS_log2 (by omega), szA (lnA (lnA (m := 6) (n := 200) (by decide +kernel) (iS_200 (by omega) (by omega))) l1) (iS_200 (i := W) (by omega) (by omega)) (by decide), ?_⟩
  walk_at "nf"
  have e1 : ([D.str (("bears " : Str) ++ iS b), D.str (("bench " : Str) ++ iS L ++ (" " : Str) ++ iS W)] : List D) = (bedRs L W (B.take 0) b).map D.str := by rw [row_bears, row_bench]; rfl
  refine .over B bedD rfl [5, 6, 7, 8, 9, 10, 11] (fun j vs => ∃ l x1 x2 x3 x4 x5 x6, vs = [some (.ow .lst l), x1, x2, x3, x4, x5, x6] ∧ l = (bedRs L W (B.take j) b).map D.str) ⟨[_, _, _, _, _, _, _], rfl, _, _, _, _, _, _, _, rfl, e1⟩ ?_ ?_
  · rintro j x vs hj ⟨l, x1, x2, x3, x4, x5, x6, rfl, rfl⟩
    have hwb := hw.2.2.2 x (List.mem_of_getElem? hj)
    obtain ⟨h1, h2, h3, h4, h5⟩ := hwb
    unfold M6 at h1
    refine ⟨rfl, ?_⟩
    walk_at "nf"
    refine ⟨x.h, rfl, iS_log2 (by omega), x.w, rfl, iS_log2 (by omega), x.xs, rfl, h4, x.ys, rfl, h5, ?_⟩
    walk_at "nf"
    have hl := bedRs_len (L := L) (W := W) (B := B.take j) (b := b)
    have hB6 := hw.2.2.1.2
    refine ⟨rfl, bedWs x, rfl, ?_, szL (by rw [List.length_map, hl, List.length_take]; omega), ?_⟩
    · have h6 := sum_lens (k := 200) (ys := bedWs x) (bed_len (hw.2.2.2 x (List.mem_of_getElem? hj)))
      have h7 : (bedWs x).length = 6 := rfl
      have h8 : Str.length " " = 1 := rfl
      rw [h7] at h6 ⊢
      rw [h8]
      omega
    refine ⟨[_, _, _, _, _, _, _], rfl, _, _, _, _, _, _, _, rfl, ?_⟩
    rw [bedRs_snoc hj, List.map_append]
    rfl
  · rintro vs ⟨l, x1, x2, x3, x4, x5, x6, rfl, rfl⟩
    walk_at "nf"
    rw [List.take_length]
    refine .over C coD rfl [5, 6, 7, 12, 13, 14, 15, 16] (fun j vs => ∃ l x1 x2 x3 x4 x5 x6 x7, vs = [some (.ow .lst l), x1, x2, x3, x4, x5, x6, x7] ∧ l = (bedRs L W B b ++ (C.take j).flatMap coRs).map D.str) ⟨[_, _, _, _, _, _, _, _], rfl, _, _, _, _, _, _, _, _, rfl, by simp⟩ ?_ ?_
    · rintro j c vs hj ⟨l, y1, y2, y3, y4, y5, y6, y7, rfl, rfl⟩
      have hwc := hwc.2 c (List.mem_of_getElem? hj)
      obtain ⟨c1, c2, c3⟩ := hwc
      unfold M6 at c1
      refine ⟨rfl, ?_⟩
      walk_at "nf"
      have ht := tot_le hj
      have hl := bedRs_len (L := L) (W := W) (B := B) (b := b)
      have hl2 := coRs_len (C := C.take j)
      have hB6 := hw.2.2.1.2
      have hC6 := hC.1.2
      have h24 := hC.2.2.1
      have hlt : (bedRs L W B b ++ (C.take j).flatMap coRs).length ≤ 40 := by rw [List.length_append, hl, hl2, List.length_take]; omega
      refine ⟨rfl, c.h, rfl, iS_log2 (by omega), szA (m := 10) (n := 200) (by decide +kernel) (iS_200 (by omega) (by omega)) (by decide), szL (by rw [List.length_map]; omega), ?_⟩
      walk_at "nf"
      refine .over c.ps plD rfl [5, 7, 13, 14, 15, 16] (fun i vs => ∃ l x2 x4 x5 x6 x7, vs = [some (.ow .lst l), x2, x4, x5, x6, x7] ∧ l = (bedRs L W B b ++ (C.take j).flatMap coRs ++ (rowS ["course", iS c.h] :: (c.ps.take i).map fun p => rowS (plWs p))).map D.str) ⟨[_, _, _, _, _, _], rfl, _, _, _, _, _, _, rfl, ?_⟩ ?_ ?_
      · rw [← row_course]
        simp
        rfl
      · rintro i q vs hi ⟨l, z2, z4, z5, z6, z7, rfl, rfl⟩
        have hwq := c2 q (List.mem_of_getElem? hi)
        obtain ⟨q1, q2, q3, q4, q5⟩ := hwq
        unfold M6 at q2 q3
        have hil := (List.getElem?_eq_some_iff.mp hi).1
        refine ⟨rfl, ?_⟩
        walk_at "nf"
        have hix : atI ([D.str q.g, D.str "-"] : List D) (if eqD (.str q.g) (.str "") = true then 1 else 0) = some (.str (gS q.g)) := by
          unfold gS
          by_cases e : q.g = ""
          · rw [if_pos (by simp [eqD, e]), if_pos e]; rfl
          · rw [if_neg (by simp [eqD, e]), if_neg e]; rfl
        refine ⟨rfl, q.x, rfl, iS_log2 (by omega), q.w, rfl, iS_log2 (by omega), q.d, rfl, iS_log2 (by omega), .inl rfl, _, hix, plWs q, rfl, ?_, szL (by simp only [List.length_map, List.length_append, List.length_cons, List.length_take] at hlt ⊢; omega), ?_⟩
        · have h6 := sum_lens (k := 200) (ys := plWs q) (pl_len (c2 q (List.mem_of_getElem? hi)))
          have h7 : (plWs q).length = 6 := rfl
          have h8 : Str.length " " = 1 := rfl
          rw [h7] at h6 ⊢
          rw [h8]
          omega
        refine ⟨[_, _, _, _, _, _], rfl, _, _, _, _, _, _, rfl, ?_⟩
        rw [show c.ps.take (i + 1) = c.ps.take i ++ [q] from by rw [List.take_succ, hi]; rfl]
        simp
        rfl
      · rintro vs ⟨l, z2, z4, z5, z6, z7, rfl, rfl⟩
        walk_at "nf"
        refine ⟨[_, _, _, _, _, _, _, _], rfl, _, _, _, _, _, _, _, _, rfl, ?_⟩
        rw [List.take_length, cos_snoc hj]
        simp [coRs]
    · rintro vs ⟨l, y1, y2, y3, y4, y5, y6, y7, rfl, rfl⟩
      walk_at "nf"
      rw [List.take_length, ← planRs_eq]
      exact h
theorem ok_bench_told (Df : DefAt K mg "_law_bench_told" s_bench_told ["_law_bench_here"]) (B : Bt mg) (KC_Bench : Cls K (ca "Bench")) (KN_Bench : ∀ x, x ∈ (["kept_beds", "kept_pieces", "long_and_wide", "top"] : List Str) → NoAttr K (ca "Bench") x) (C_Bench_size : CalleeM P w K mg base 1 (ca "Bench") "size" ["self"] [] (sizeS ca)) (C_Bench_beds : CalleeM P w K mg base 2 (ca "Bench") "beds" ["self"] [] (bedsS ca)) (C_Bench_many : CalleeM P w K mg base 1 (ca "Bench") "many" ["self"] [] (manyS ca)) (C_Bench_box : CalleeM P w K mg base 4 (ca "Bench") "box" ["self", "piece"] [] (bboxX ca)) (C_Bench_grain : CalleeM P w K mg base 4 (ca "Bench") "grain" ["self", "piece"] [] (grnX ca)) (C_Bench_heavy : CalleeM P w K mg base 4 (ca "Bench") "heavy" ["self", "piece"] [] (hvyX ca)) : Callee P w K mg base 5 "_law_bench_told" ["_law_bench_here"] [] (btoldS ca) := by
  refine callee_of Df sc_bench_told (by decide) (by decide) fun f cdv A outer s H EX W hr hG tk hp => ?_
  refine ⟨_, (ss_cons (s_set 1 ((q_lst (a_cons (q_meth0 C_Bench_size KC_Bench tk (hr.mono (by decide)) hG (p_nm 0).val) (a_cons (q_meth0 C_Bench_beds KC_Bench tk (hr.mono (by decide)) hG (p_nm 0).val) (a_cons (q_meth0 C_Bench_many KC_Bench tk (hr.mono (by decide)) hG (p_nm 0).val) a_nil))))).fz sc_bench_told.nd)
      (ss_one (s_ret ((q_add (p_nm 1) ((q_lc (own := [("_law_k", 2)]) rfl sc_bench_told.nd (i_rng (by rfl) B.range (q_meth0 C_Bench_many KC_Bench tk (hr.mono (by decide)) hG (p_nm 0).val)) (blkOk_by (by rfl)) (fun _ _ _ _ _ => (g_name 2 sc_bench_told.nd)) (fun _ _ _ _ _ => ts_nil) (fun _ _ _ _ _ => (q_tup (a_cons (q_meth C_Bench_box KC_Bench takes0 (hr.mono (by decide)) hG (p_nm 0).val (a_cons (q_add (p_nm 2) (q_int).p) a_nil) []) (a_cons (q_meth C_Bench_grain KC_Bench takes0 (hr.mono (by decide)) hG (p_nm 0).val (a_cons (q_add (p_nm 2) (q_int).p) a_nil) []) (a_cons (q_meth C_Bench_heavy KC_Bench takes0 (hr.mono (by decide)) hG (p_nm 0).val (a_cons (q_add (p_nm 2) (q_int).p) a_nil) []) a_nil))))))).p)).fz))), fun args Q E hl h => ?_⟩
  clear hl hr hG tk hp W EX H s outer A cdv f Df B KC_Bench KN_Bench C_Bench_size C_Bench_beds C_Bench_many C_Bench_box C_Bench_grain C_Bench_heavy
  obtain ⟨L, W, B, rfl, hB, h⟩ := h
  walk_at "nf"
  refine ⟨⟨rfl, rfl⟩, L, W, B, rfl, ⟨rfl, rfl⟩, L, W, B, rfl, ⟨rfl, rfl⟩, L, W, B, rfl, ?_⟩
  have hpl := pcs_len (L := L) (W := W) (B := B) (z := 0)
  have h6 := hB.2.2.2.2.2
  refine ⟨⟨rfl, rfl⟩, L, W, B, rfl, szI (by omega), by omega, ?_⟩
  rw [Int.toNat_natCast]
  refine .each (List.range (pcsF L W B 0).length) (fun k => .int (k : Nat)) rng0 (fun k => pcAt (pcsF L W B 0) k) (fun j a hj => ⟨fun _ => ?_, fun z => nomatch z⟩) ?_
  · have ha : a < (pcsF L W B 0).length := List.mem_range.mp (List.mem_of_getElem? hj)
    have hp : (pcsF L W B 0)[a]? = some (pcsF L W B 0)[a] := List.getElem?_eq_getElem ha
    refine ⟨⟨rfl, rfl⟩, L, W, B, _, rfl, rfl, .inr ⟨_, rfl, .inr ⟨a, _, by omega, hp, ?_⟩⟩⟩
    refine ⟨⟨rfl, rfl⟩, L, W, B, _, rfl, rfl, .inr ⟨_, rfl, .inr ⟨a, _, by omega, hp, ?_⟩⟩⟩
    refine ⟨⟨rfl, rfl⟩, L, W, B, _, rfl, rfl, .inr ⟨_, rfl, .inr ⟨a, _, by omega, hp, ?_⟩⟩⟩
    refine ⟨?_, rfl⟩
    have e : ppD (pcsF L W B 0)[a] = pcAt (pcsF L W B 0) a := by unfold pcAt; rw [hp]
    exact (congrArg (fun x => _ ++ [x]) e).trans (all_one hj)
  · walk_at "nf"
    rw [range_pcs]
    refine ⟨?_, h⟩
    have h7 : (pcsF L W B 0).length ≤ 24 := by omega
    rw [List.length_map]
    exact szN (by simp only [List.length_cons, List.length_nil]; omega)
theorem ok_shut_told (Df : DefAt K mg "_law_shut_told" s_shut_told ["_law_shut_here"]) (KC_Wall : Cls K (ca "Wall")) (KN_Wall : ∀ x, x ∈ (["kept_courses"] : List Str) → NoAttr K (ca "Wall") x) (C_Wall_courses : CalleeM P w K mg base 1 (ca "Wall") "courses" ["self"] [] (coursesW ca)) (C_Wall_marks : CalleeM P w K mg base 1 (ca "Wall") "marks" ["self"] [] (marksW ca)) (C_Wall_need : CalleeM P w K mg base 6 (ca "Wall") "need" ["self", "mark"] [] (needX ca)) (C_Wall_beneath : CalleeM P w K mg base 7 (ca "Wall") "beneath" ["self", "mark"] [] (beneathX ca)) (C_Wall_upon : CalleeM P w K mg base 7 (ca "Wall") "upon" ["self", "mark"] [] (uponX ca)) : Callee P w K mg base 8 "_law_shut_told" ["_law_shut_here"] [] (wtoldS ca) := by
  refine callee_of Df sc_shut_told (by decide) (by decide) fun f cdv A outer s H EX W hr hG tk hp => ?_
  refine ⟨_, (ss_cons (s_set 1 ((q_lst (a_cons (q_meth0 C_Wall_courses KC_Wall tk (hr.mono (by decide)) hG (p_nm 0).val) (a_cons (q_meth0 C_Wall_marks KC_Wall tk (hr.mono (by decide)) hG (p_nm 0).val) a_nil)))).fz sc_shut_told.nd)
      (ss_one (s_ret ((q_add (p_nm 1) ((q_lc (own := [("_law_mark", 2)]) rfl sc_shut_told.nd (i_list (q_meth0 C_Wall_marks KC_Wall tk (hr.mono (by decide)) hG (p_nm 0).val)) (blkOk_by (by rfl)) (fun _ _ _ _ _ => (g_name 2 sc_shut_told.nd)) (fun _ _ _ _ _ => ts_nil) (fun _ _ _ _ _ => (q_tup (a_cons (q_meth C_Wall_need KC_Wall takes0 (hr.mono (by decide)) hG (p_nm 0).val (a_cons (p_nm 2).val a_nil) []) (a_cons (q_meth C_Wall_beneath KC_Wall takes0 (hr.mono (by decide)) hG (p_nm 0).val (a_cons (p_nm 2).val a_nil) []) (a_cons (q_meth C_Wall_upon KC_Wall takes0 (hr.mono (by decide)) hG (p_nm 0).val (a_cons (p_nm 2).val a_nil) []) a_nil))))))).p)).fz))), fun args Q E hl h => ?_⟩
  clear hl hr hG tk hp W EX H s outer A cdv f Df KC_Wall KN_Wall C_Wall_courses C_Wall_marks C_Wall_need C_Wall_beneath C_Wall_upon
  obtain ⟨C, rfl, hC, h⟩ := h
  walk_at "nf"
  refine ⟨⟨rfl, rfl⟩, C, rfl, ⟨rfl, rfl⟩, C, rfl, by have := hC.2.2.1; omega, ?_⟩
  refine ⟨⟨rfl, rfl⟩, C, rfl, by have := hC.2.2.1; omega, ?_⟩
  refine .each (mksF C 1) mkD rfl (shDw C) (fun j m hj => ⟨fun _ => ?_, fun z => nomatch z⟩) ?_
  · have hm := List.mem_of_getElem? hj
    obtain ⟨p, hp⟩ := Option.ne_none_iff_exists'.mp (mem_plAt hm)
    have hbd := wall_bd hC hm
    have e : D.nd .tup [needD C m p, mksD (bsF C m (m.1 - 1)), mksD (bsF C m (m.1 + 1))] = shDw C m := by unfold shDw; rw [hp]
    refine ⟨⟨rfl, rfl⟩, C, _, rfl, rfl, .inr ⟨m, rfl, hbd, .inr ⟨p, hp, ?_⟩⟩⟩
    refine ⟨⟨rfl, rfl⟩, C, _, rfl, rfl, .inr ⟨m, rfl, hbd, .inr ⟨p, hp, ?_⟩⟩⟩
    refine ⟨⟨rfl, rfl⟩, C, _, rfl, rfl, .inr ⟨m, rfl, hbd, .inr ⟨p, hp, ?_⟩⟩⟩
    refine ⟨?_, rfl⟩
    exact (congrArg (fun x => _ ++ [x]) e).trans (all_one hj)
  · refine ⟨?_, h⟩
    have h7 := hC.2.2.1
    rw [List.length_map, mks_len]
    exact szN (by simp only [List.length_cons, List.length_nil]; omega)
theorem ok_read_right (Df : DefAt K mg "_law_read_right" s_read_right ["_law_text", "_law_bench_here", "_law_shut_here", "_law_bears"]) (B : Bt mg) (KI_Bench : IsK K mg "Bench" (ca "Bench")) (KI_Wall : IsK K mg "Wall" (ca "Wall")) (C_read_plan : Callee P w K mg base 10 "read_plan" ["text"] [] (readPS ca)) (C_alike : Callee P w K mg base 1 "_law_alike" ["_law_found", "_law_due"] [] alikeS) (C_show_plan : Callee P w K mg base 3 "show_plan" ["bench", "wall", "bears"] [] (shpS ca)) (C_bench_told : Callee P w K mg base 5 "_law_bench_told" ["_law_bench_here"] [] (btoldS ca)) (C_shut_told : Callee P w K mg base 8 "_law_shut_told" ["_law_shut_here"] [] (wtoldS ca)) : Callee P w K mg base 11 "_law_read_right" ["_law_text", "_law_bench_here", "_law_shut_here", "_law_bears"] [] (lreadS ca) := by
  refine callee_of Df sc_read_right (by decide) (by decide) fun f cdv A outer s H EX W hr hG tk hp => ?_
  refine ⟨_, (ss_cons (s_set 4 (q_callC C_read_plan tk (hr.mono (by decide)) hG (by rfl) (a_cons (p_nm 0).val a_nil) []) sc_read_right.nd)
      (ss_cons (s_if ((w_orM (t_not (t_val (q_isi ki_tup (by rfl) B.isinstance (by rfl) B.tuple bt_tuple (p_nm 4)))) (w_or1 (t_ne (hu65 hr) ((q_b1 c_lenB g_lenB (by rfl) B.len bt_len (p_nm 4))).p (q_int).p)))).t (ss_one (s_ret q_bl)) ss_nil)
      (ss_cons (s_if ((w_orM (t_not (t_val (q_isC KI_Bench (by rfl) B.isinstance (by rfl) ((q_ixA (hu65 hr) (p_nm 4) (q_int).p)).p))) (w_orM (t_not (t_val (q_isC KI_Wall (by rfl) B.isinstance (by rfl) ((q_ixA (hu65 hr) (p_nm 4) (q_int).p)).p))) (w_or1 (t_not (t_val (q_callC C_alike tk (hr.mono (by decide)) hG (by rfl) (a_cons (q_ixA (hu65 hr) (p_nm 4) (q_int).p) (a_cons (p_nm 3).val a_nil)) []))))))).t (ss_one (s_ret q_bl)) ss_nil)
      (ss_cons (s_if (t_not (t_val (q_callC C_alike tk (hr.mono (by decide)) hG (by rfl) (a_cons (q_callC C_bench_told tk (hr.mono (by decide)) hG (by rfl) (a_cons (q_ixA (hu65 hr) (p_nm 4) (q_int).p) a_nil) []) (a_cons (q_callC C_bench_told tk (hr.mono (by decide)) hG (by rfl) (a_cons (p_nm 1).val a_nil) []) a_nil)) []))) (ss_one (s_ret q_bl)) ss_nil)
      (ss_cons (s_if (t_not (t_val (q_callC C_alike tk (hr.mono (by decide)) hG (by rfl) (a_cons (q_callC C_shut_told tk (hr.mono (by decide)) hG (by rfl) (a_cons (q_ixA (hu65 hr) (p_nm 4) (q_int).p) a_nil) []) (a_cons (q_callC C_shut_told tk (hr.mono (by decide)) hG (by rfl) (a_cons (p_nm 2).val a_nil) []) a_nil)) []))) (ss_one (s_ret q_bl)) ss_nil)
      (ss_one (s_ret (q_callC C_alike tk (hr.mono (by decide)) hG (by rfl) (a_cons (q_callC C_show_plan tk (hr.mono (by decide)) hG (by rfl) (a_cons (q_ixA (hu65 hr) (p_nm 4) (q_int).p) (a_cons (q_ixA (hu65 hr) (p_nm 4) (q_int).p) (a_cons (q_ixA (hu65 hr) (p_nm 4) (q_int).p) a_nil))) []) (a_cons (p_nm 0).val a_nil)) [])))))))), fun args Q E hl h => ?_⟩
  clear hl hr hG tk hp W EX H s outer A cdv f Df B KI_Bench KI_Wall C_read_plan C_alike C_show_plan C_bench_told C_shut_told
  obtain ⟨L, W, B, C, b, rfl, hB, hC, hb, h⟩ := h
  walk_at "nf"
  refine ⟨_, rfl, rfl, fun x e => by cases e; exact sh_plan hB hC hb, fun z => absurd rfl (z _), fun x e => ?_⟩
  cases e
  refine plan_res hB hC hb fun _ _ => ?_
  walk_at "nf"
  refine ⟨true, rfl, false, fun _ => ⟨.inl rfl, rfl, rfl⟩, fun z => (nomatch z), fun _ => ?_⟩
  walk_at "nf"
  have hbs : sml 140 64 (.int b) := sml_int (by omega)
  refine ⟨_, at_int (by decide) rfl, rfl, false, fun _ => ⟨_, at_int (by decide) rfl, rfl, false, fun _ => ⟨_, at_int (by decide) rfl, _, rfl, (sml_al hbs (by decide)).1, (sml_al hbs (by decide)).2, rfl, rfl⟩, rfl, rfl⟩, fun z => (nomatch z), fun _ => ?_⟩
  walk_at "nf"
  refine ⟨_, at_int (by decide) rfl, L, W, B, rfl, hB, L, W, B, rfl, hB, _, rfl, (al_bT hB).1, (al_bT hB).2, fun z => (nomatch z), fun _ => ?_⟩
  walk_at "nf"
  refine ⟨_, at_int (by decide) rfl, C, rfl, hC, C, rfl, hC, _, rfl, (al_wT hC).1, (al_wT hC).2, fun z => (nomatch z), fun _ => ?_⟩
  walk_at "nf"
  have hps := sml_plan (n := 64) hB hC hb
  refine ⟨_, at_int (by decide) rfl, _, at_int (by decide) rfl, _, at_int (by decide) rfl, L, W, B, C, b, rfl, hB, hC, hb, ?_⟩
  exact ⟨_, rfl, (sml_al hps (by decide)).1, (sml_al hps (by decide)).2, h⟩
theorem ok_law (Df : DefAt K mg "law" s_law ["_law_script"]) (B : Bt mg) (KC_Bench : Cls K (ca "Bench")) (KN_Bench : ∀ x, x ∈ (["kept_beds", "kept_pieces", "long_and_wide", "top"] : List Str) → NoAttr K (ca "Bench") x) (KC_Wall : Cls K (ca "Wall")) (KN_Wall : ∀ x, x ∈ (["kept_courses"] : List Str) → NoAttr K (ca "Wall") x) (C_bag : Callee P w K mg base 1 "_law_bag" ["_law_script"] [] bagS) (C_take : Callee P w K mg base 1 "_law_take" ["_law_bag_here", "_law_many"] [0] takeX) (C_bench : Callee P w K mg base 4 "_law_bench" ["_law_bag_here"] [0] lbenchS) (C_shut : Callee P w K mg base 5 "_law_shut" ["_law_bag_here"] [0] shutS) (C_Bench_init : CalleeK P w K mg base 7 "Bench" (ca "Bench") ["self", "length", "width", "beds"] (initXB ca)) (C_Wall_init : CalleeK P w K mg base 8 "Wall" (ca "Wall") ["self", "courses"] (initX ca)) (C_read_right : Callee P w K mg base 11 "_law_read_right" ["_law_text", "_law_bench_here", "_law_shut_here", "_law_bears"] [] (lreadS ca)) (C_alike : Callee P w K mg base 1 "_law_alike" ["_law_found", "_law_due"] [] alikeS) (C_plan_rows : Callee P w K mg base 2 "_law_plan_rows" ["_law_length", "_law_width", "_law_beds", "_law_courses", "_law_bears"] [] lrowsS) (C_show_plan : Callee P w K mg base 3 "show_plan" ["bench", "wall", "bears"] [] (shpS ca)) (C_Bench_beds : CalleeM P w K mg base 2 (ca "Bench") "beds" ["self"] [] (bedsS ca)) (C_Wall_courses : CalleeM P w K mg base 1 (ca "Wall") "courses" ["self"] [] (coursesW ca)) : Callee P w K mg base 12 "law" ["_law_script"] [] (lawS 63) := by
  refine callee_of Df sc_law (by decide) (by decide) fun f cdv A outer s H EX W hr hG tk hp => ?_
  refine ⟨_, (ss_cons (s_set 1 (q_callC C_bag tk (hr.mono (by decide)) hG (by rfl) (a_cons (p_nm 0).val a_nil) []) sc_law.nd)
      (ss_cons (s_set 2 (q_callC C_take tk (hr.mono (by decide)) hG (by rfl) (a_own 1 (a_cons q_int a_nil)) [1]) sc_law.nd)
      (ss_cons (s_asgT (q_callC C_bench tk (hr.mono (by decide)) hG (by rfl) (a_own 1 a_nil) [1]) (g_tup (n := 3) rfl (gs_cons (g_name 3 sc_law.nd) (gs_cons (g_name 4 sc_law.nd) (gs_cons (g_name 5 sc_law.nd) gs_nil)))))
      (ss_cons (s_set 6 (q_callC C_shut tk (hr.mono (by decide)) hG (by rfl) (a_own 1 a_nil) [1]) sc_law.nd)
      (ss_cons (s_set 7 (q_ixA (hu65 hr) ((q_lst (a_cons (q_add (q_int).p ((q_callC C_take tk (hr.mono (by decide)) hG (by rfl) (a_own 1 (a_cons (q_pow (q_int).p (q_int).p) a_nil)) [1])).p) (a_cons (q_pow (q_int).p (q_int).p) (a_cons q_int (a_cons (q_add (q_int).p ((q_callC C_take tk (hr.mono (by decide)) hG (by rfl) (a_own 1 (a_cons q_int a_nil)) [1])).p) a_nil)))))).p ((q_callC C_take tk (hr.mono (by decide)) hG (by rfl) (a_own 1 (a_cons q_int a_nil)) [1])).p) sc_law.nd)
      (ss_cons (s_set 8 (q_join q_str ((q_lc (own := [("_law_row_here", 9)]) rfl sc_law.nd (i_list (q_callC C_plan_rows tk (hr.mono (by decide)) hG (by rfl) (a_cons (p_nm 3).val (a_cons (p_nm 4).val (a_cons (p_nm 5).val (a_cons (p_nm 6).val (a_cons (p_nm 7).val a_nil))))) [])) (blkOk_by (by rfl)) (fun _ _ _ _ _ => (g_name 9 sc_law.nd)) (fun _ _ _ _ _ => ts_nil) (fun _ _ _ _ _ => (q_add (p_nm 9) (q_str).p)))).p) sc_law.nd)
      (ss_cons (s_set 10 ((q_make C_Bench_init tk (hr.mono (by decide)) hG (by rfl) (a_cons (p_nm 3).val (a_cons (p_nm 4).val (a_cons (p_nm 5).val a_nil))))).fz sc_law.nd)
      (ss_cons (s_set 11 ((q_make C_Wall_init tk (hr.mono (by decide)) hG (by rfl) (a_cons (p_nm 6).val a_nil))).fz sc_law.nd)
      (ss_cons (s_for hp rfl (i_rng (by rfl) B.range q_int) (g_name 12 sc_law.nd) (ss_cons (s_if ((w_andM (t_eq (hu65 hr) (p_nm 12) (p_nm 2)) (w_and1 (t_not (t_val (q_callC C_read_right tk (hr.mono (by decide)) hG (by rfl) (a_cons (p_nm 8).val (a_cons (p_nm 10).val (a_cons (p_nm 11).val (a_cons (p_nm 7).val a_nil)))) [])))))).t (ss_one (s_ret q_bl)) ss_nil)
      (ss_one (s_if (t_not (t_val (q_callC C_alike tk (hr.mono (by decide)) hG (by rfl) (a_cons (q_callC C_show_plan tk (hr.mono (by decide)) hG (by rfl) (a_cons (p_nm 10).val (a_cons (p_nm 11).val (a_cons (p_nm 7).val a_nil))) []) (a_cons (p_nm 8).val a_nil)) []))) (ss_one (s_ret q_bl)) ss_nil))))
      (ss_cons (s_if (t_not (t_val (q_callC C_alike tk (hr.mono (by decide)) hG (by rfl) (a_cons ((q_lst (a_cons (q_meth0 C_Bench_beds KC_Bench tk (hr.mono (by decide)) hG (p_nm 10).val) (a_cons (q_meth0 C_Wall_courses KC_Wall tk (hr.mono (by decide)) hG (p_nm 11).val) a_nil)))).fz (a_cons ((q_lst (a_cons (p_nm 5).val (a_cons (p_nm 6).val a_nil)))).fz a_nil)) []))) (ss_one (s_ret q_bl)) ss_nil)
      (ss_one (s_ret (q_callC C_read_right tk (hr.mono (by decide)) hG (by rfl) (a_cons (p_nm 8).val (a_cons (p_nm 10).val (a_cons (p_nm 11).val (a_cons (p_nm 7).val a_nil)))) []))))))))))))), fun args Q E hl h => ?_⟩
  clear hl hr hG tk hp W EX H s outer A cdv f Df B KC_Bench KN_Bench KC_Wall KN_Wall C_bag C_take C_bench C_shut C_Bench_init C_Wall_init C_read_right C_alike C_plan_rows C_show_plan C_Bench_beds C_Wall_courses
  obtain ⟨cs, rfl, hn, h⟩ := h
  walk_at "nf"
  refine ⟨cs, rfl, hn, fun t0 hb => ?_⟩
  walk_at "nf"
  refine ⟨t0, _, rfl, hb, by decide, by decide, fun fst t1 hf0 hf1 hb1 => ?_⟩
  walk_at "nf"
  refine ⟨t1, rfl, hb1, fun L W B t2 hB hb2 => ?_⟩
  refine ⟨rfl, ?_⟩
  walk_at "nf"
  refine ⟨t2, rfl, hb2, fun C t3 hC hb3 => ?_⟩
  walk_at "nf"
  refine ⟨show CPow _ _ from ⟨by decide, by decide, by decide⟩, ?_⟩
  walk_at "nf"
  refine ⟨t3, _, rfl, hb3, by decide, by decide, fun v1 t4 hv0 hv1 hb4 => ?_⟩
  refine ⟨show CPow _ _ from ⟨by decide, by decide, by decide⟩, ?_⟩
  refine ⟨t4, _, rfl, hb4, by decide, by decide, fun v2 t5 hw0 hw1 hb5 => ?_⟩
  refine ⟨t5, _, rfl, hb5, by decide, by decide, fun v3 t6 hx0 hx1 hb6 => ?_⟩
  walk_at "nf"
  refine at_all (C := fun d => ∃ n : Int, d = .int n ∧ 1 ≤ n ∧ n ≤ 1000000000000000000000) hx0 (by show v3 < 4; omega) ?_ ?_
  · intro d hd
    simp only [List.mem_cons, List.not_mem_nil, or_false] at hd
    rcases hd with rfl | rfl | rfl | rfl
    · exact ⟨_, rfl, by omega, by have : v1 < 1000000000000000000000 := hv1; omega⟩
    · exact ⟨_, rfl, by decide, by decide⟩
    · exact ⟨_, rfl, by decide, by decide⟩
    · exact ⟨_, rfl, by omega, by omega⟩
  rintro _ ⟨b, rfl, hbb⟩
  walk_at "nf"
  refine ⟨L, W, B, C, b, rfl, hB, hC, hbb, ?_⟩
  have hw := ok_weak hB
  have hrl := rows_len hw (wall_weak hC) hbb
  refine .each (planRs L W B C b) D.str rfl (fun r => .str (r ++ ("\n" : Str))) (fun j r hj => ⟨fun _ => ⟨szA (m := 1206) (n := 1) (hrl r (List.mem_of_getElem? hj)) (by decide +kernel) (by decide), all_one hj, rfl⟩, fun z => nomatch z⟩) ?_
  refine ⟨(planRs L W B C b).map fun r => r ++ ("\n" : Str), by rw [List.map_map]; rfl, ?_, ?_⟩
  · have h1 := sum_lens (k := 1207) (ys := (planRs L W B C b).map fun r => r ++ ("\n" : Str)) fun x hx => by
      obtain ⟨r, hr, rfl⟩ := List.mem_map.mp hx
      exact lnA (m := 1206) (n := 1) (hrl r hr) (by decide +kernel)
    have h3 : Str.length "" = 0 := rfl
    rw [List.length_map, plan_rows] at h1
    rw [h3, Nat.mul_zero, Nat.add_zero]
    have h5 := hw.2.2.1.2
    have h6 := hC.1.2
    have h7 := hC.2.2.1
    have h8 : (2 + B.length + C.length + totF C) * 1207 ≤ 38 * 1207 := Nat.mul_le_mul (by omega) (Nat.le_refl _)
    omega
  change sSeq _ _ _ [_, _, _, _, _, _, _, _, some (.fz (.str (planTx L W B C b))), _, _, _, _]
  walk_at "nf"
  refine ⟨.int L, .int W, bedsD B, rfl, gds_ok hw, .inr ⟨L, W, B, rfl, rfl, rfl, hw, fun k e o => (by rw [ok_told hB] at e; cases e), fun e o => (by rw [ok_told hB] at e; cases e), fun _ _ => ⟨rfl, _, rfl, ?_⟩⟩⟩
  walk_at "nf"
  refine ⟨cosD C, rfl, big_cos (wall_weak hC), .inr ⟨C, rfl, wall_weak hC, fun m e o => (by rw [wall_told hC] at e; cases e), fun e o => (by rw [wall_told hC] at e; cases e), fun m e o => (by rw [wall_told hC] at e; cases e), fun _ _ => ⟨rfl, _, rfl, ?_⟩⟩⟩
  walk_at "nf"
  have hps := sml_plan (n := 64) hB hC hbb
  refine ⟨szI (by decide), by decide, ?_⟩
  refine .rng [12] (fun j vs => ∃ x, vs = [x]) ⟨[_], rfl, _, rfl⟩ ?_ ?_
  · rintro j vs hj ⟨x, rfl⟩
    walk_at "nf"
    refine ⟨.inl rfl, false, fun _ => ⟨L, W, B, C, b, rfl, hB, hC, hbb, rfl, rfl⟩, fun z => ?_, fun _ => ?_⟩
    · rw [Bool.and_false] at z
      cases z
    walk_at "nf"
    refine ⟨L, W, B, C, b, rfl, hB, hC, hbb, _, rfl, (sml_al hps (by decide)).1, (sml_al hps (by decide)).2, fun z => (nomatch z), fun _ => ?_⟩
    exact ⟨[_], rfl, _, rfl⟩
  · rintro vs ⟨x, rfl⟩
    walk_at "nf"
    have hs2 : sml _ 64 (.nd .lst [bedsD B, cosD C]) := sml_ls (.cons (sml_wbeds (n := 60) hw.2.2.2 hw.2.2.1.2) (.cons (sml_wcos (n := 59) (wall_weak hC)) .nil))
    refine ⟨⟨rfl, rfl⟩, L, W, B, rfl, ⟨rfl, rfl⟩, C, rfl, _, rfl, (sml_al hs2 (by decide)).1, (sml_al hs2 (by decide)).2, fun z => (nomatch z), fun _ => ?_⟩
    walk_at "nf"
    exact ⟨L, W, B, C, b, rfl, hB, hC, hbb, h⟩

end
theorem all_mk {P : Program} {w : World} {K : PySem.W.Frag} {h : Heap} {mg : Str → Option Value} (X : K.In h) (G : h.Ns mainGlobals mg) (base : Heap)
    {D_Bench : Addr}
    {D_Wall : Addr}
    {f0 : Addr} {od0 an0 : Option Addr} {sl0 : Array (Option Value)} {oc0 kV0 dc0 pm0 cd0 ct0 : Value}
    {f1 : Addr} {od1 an1 : Option Addr} {sl1 : Array (Option Value)} {oc1 kV1 dc1 pm1 cd1 ct1 : Value}
    {f2 : Addr} {od2 an2 : Option Addr} {sl2 : Array (Option Value)} {oc2 kV2 dc2 pm2 cd2 ct2 : Value}
    {f3 : Addr} {od3 an3 : Option Addr} {sl3 : Array (Option Value)} {oc3 kV3 dc3 pm3 cd3 ct3 : Value}
    {f4 : Addr} {od4 an4 : Option Addr} {sl4 : Array (Option Value)} {oc4 kV4 dc4 pm4 cd4 ct4 : Value}
    {f5 : Addr} {od5 an5 : Option Addr} {sl5 : Array (Option Value)} {oc5 kV5 dc5 pm5 cd5 ct5 : Value}
    {f6 : Addr} {od6 an6 : Option Addr} {sl6 : Array (Option Value)} {oc6 kV6 dc6 pm6 cd6 ct6 : Value}
    {f7 : Addr} {od7 an7 : Option Addr} {sl7 : Array (Option Value)} {oc7 kV7 dc7 pm7 cd7 ct7 : Value}
    {f8 : Addr} {od8 an8 : Option Addr} {sl8 : Array (Option Value)} {oc8 kV8 dc8 pm8 cd8 ct8 : Value}
    {f9 : Addr} {od9 an9 : Option Addr} {sl9 : Array (Option Value)} {oc9 kV9 dc9 pm9 cd9 ct9 : Value}
    {f10 : Addr} {od10 an10 : Option Addr} {sl10 : Array (Option Value)} {oc10 kV10 dc10 pm10 cd10 ct10 : Value}
    {f11 : Addr} {od11 an11 : Option Addr} {sl11 : Array (Option Value)} {oc11 kV11 dc11 pm11 cd11 ct11 : Value}
    {f12 : Addr} {od12 an12 : Option Addr} {sl12 : Array (Option Value)} {oc12 kV12 dc12 pm12 cd12 ct12 : Value}
    {f13 : Addr} {od13 an13 : Option Addr} {sl13 : Array (Option Value)} {oc13 kV13 dc13 pm13 cd13 ct13 : Value}
    {f14 : Addr} {od14 an14 : Option Addr} {sl14 : Array (Option Value)} {oc14 kV14 dc14 pm14 cd14 ct14 : Value}
    {f15 : Addr} {od15 an15 : Option Addr} {sl15 : Array (Option Value)} {oc15 kV15 dc15 pm15 cd15 ct15 : Value}
    {f16 : Addr} {od16 an16 : Option Addr} {sl16 : Array (Option Value)} {oc16 kV16 dc16 pm16 cd16 ct16 : Value}
    {f17 : Addr} {od17 an17 : Option Addr} {sl17 : Array (Option Value)} {oc17 kV17 dc17 pm17 cd17 ct17 : Value}
    {f18 : Addr} {od18 an18 : Option Addr} {sl18 : Array (Option Value)} {oc18 kV18 dc18 pm18 cd18 ct18 : Value}
    {f19 : Addr} {od19 an19 : Option Addr} {sl19 : Array (Option Value)} {oc19 kV19 dc19 pm19 cd19 ct19 : Value}
    {f20 : Addr} {od20 an20 : Option Addr} {sl20 : Array (Option Value)} {oc20 kV20 dc20 pm20 cd20 ct20 : Value}
    {f21 : Addr} {od21 an21 : Option Addr} {sl21 : Array (Option Value)} {oc21 kV21 dc21 pm21 cd21 ct21 : Value}
    {f22 : Addr} {od22 an22 : Option Addr} {sl22 : Array (Option Value)} {oc22 kV22 dc22 pm22 cd22 ct22 : Value}
    {f23 : Addr} {od23 an23 : Option Addr} {sl23 : Array (Option Value)} {oc23 kV23 dc23 pm23 cd23 ct23 : Value}
    {f24 : Addr} {od24 an24 : Option Addr} {sl24 : Array (Option Value)} {oc24 kV24 dc24 pm24 cd24 ct24 : Value}
    {f25 : Addr} {od25 an25 : Option Addr} {sl25 : Array (Option Value)} {oc25 kV25 dc25 pm25 cd25 ct25 : Value}
    {f26 : Addr} {od26 an26 : Option Addr} {sl26 : Array (Option Value)} {oc26 kV26 dc26 pm26 cd26 ct26 : Value}
    {f27 : Addr} {od27 an27 : Option Addr} {sl27 : Array (Option Value)} {oc27 kV27 dc27 pm27 cd27 ct27 : Value}
    {f28 : Addr} {od28 an28 : Option Addr} {sl28 : Array (Option Value)} {oc28 kV28 dc28 pm28 cd28 ct28 : Value}
    {f29 : Addr} {od29 an29 : Option Addr} {sl29 : Array (Option Value)} {oc29 kV29 dc29 pm29 cd29 ct29 : Value}
    {f30 : Addr} {od30 an30 : Option Addr} {sl30 : Array (Option Value)} {oc30 kV30 dc30 pm30 cd30 ct30 : Value}
    {f31 : Addr} {od31 an31 : Option Addr} {sl31 : Array (Option Value)} {oc31 kV31 dc31 pm31 cd31 ct31 : Value}
    {f32 : Addr} {od32 an32 : Option Addr} {sl32 : Array (Option Value)} {oc32 kV32 dc32 pm32 cd32 ct32 : Value}
    {f33 : Addr} {od33 an33 : Option Addr} {sl33 : Array (Option Value)} {oc33 kV33 dc33 pm33 cd33 ct33 : Value}
    {f34 : Addr} {od34 an34 : Option Addr} {sl34 : Array (Option Value)} {oc34 kV34 dc34 pm34 cd34 ct34 : Value}
    {f35 : Addr} {od35 an35 : Option Addr} {sl35 : Array (Option Value)} {oc35 kV35 dc35 pm35 cd35 ct35 : Value}
    {f36 : Addr} {od36 an36 : Option Addr} {sl36 : Array (Option Value)} {oc36 kV36 dc36 pm36 cd36 ct36 : Value}
    {f37 : Addr} {od37 an37 : Option Addr} {sl37 : Array (Option Value)} {oc37 kV37 dc37 pm37 cd37 ct37 : Value}
    {f38 : Addr} {od38 an38 : Option Addr} {sl38 : Array (Option Value)} {oc38 kV38 dc38 pm38 cd38 ct38 : Value}
    {f39 : Addr} {od39 an39 : Option Addr} {sl39 : Array (Option Value)} {oc39 kV39 dc39 pm39 cd39 ct39 : Value}
    {f40 : Addr} {od40 an40 : Option Addr} {sl40 : Array (Option Value)} {oc40 kV40 dc40 pm40 cd40 ct40 : Value}
    {f41 : Addr} {od41 an41 : Option Addr} {sl41 : Array (Option Value)} {oc41 kV41 dc41 pm41 cd41 ct41 : Value}
    {f42 : Addr} {od42 an42 : Option Addr} {sl42 : Array (Option Value)} {oc42 kV42 dc42 pm42 cd42 ct42 : Value}
    {f43 : Addr} {od43 an43 : Option Addr} {sl43 : Array (Option Value)} {oc43 kV43 dc43 pm43 cd43 ct43 : Value}
    {f44 : Addr} {od44 an44 : Option Addr} {sl44 : Array (Option Value)} {oc44 kV44 dc44 pm44 cd44 ct44 : Value}
    {f45 : Addr} {od45 an45 : Option Addr} {sl45 : Array (Option Value)} {oc45 kV45 dc45 pm45 cd45 ct45 : Value}
    {f46 : Addr} {od46 an46 : Option Addr} {sl46 : Array (Option Value)} {oc46 kV46 dc46 pm46 cd46 ct46 : Value}
    {f47 : Addr} {od47 an47 : Option Addr} {sl47 : Array (Option Value)} {oc47 kV47 dc47 pm47 cd47 ct47 : Value}
    {f48 : Addr} {od48 an48 : Option Addr} {sl48 : Array (Option Value)} {oc48 kV48 dc48 pm48 cd48 ct48 : Value}
    {f49 : Addr} {od49 an49 : Option Addr} {sl49 : Array (Option Value)} {oc49 kV49 dc49 pm49 cd49 ct49 : Value}
    {f50 : Addr} {od50 an50 : Option Addr} {sl50 : Array (Option Value)} {oc50 kV50 dc50 pm50 cd50 ct50 : Value}
    {f51 : Addr} {od51 an51 : Option Addr} {sl51 : Array (Option Value)} {oc51 kV51 dc51 pm51 cd51 ct51 : Value}
    {f52 : Addr} {od52 an52 : Option Addr} {sl52 : Array (Option Value)} {oc52 kV52 dc52 pm52 cd52 ct52 : Value}
    {f53 : Addr} {od53 an53 : Option Addr} {sl53 : Array (Option Value)} {oc53 kV53 dc53 pm53 cd53 ct53 : Value}
    {f54 : Addr} {od54 an54 : Option Addr} {sl54 : Array (Option Value)} {oc54 kV54 dc54 pm54 cd54 ct54 : Value}
    {f55 : Addr} {od55 an55 : Option Addr} {sl55 : Array (Option Value)} {oc55 kV55 dc55 pm55 cd55 ct55 : Value}
    {f56 : Addr} {od56 an56 : Option Addr} {sl56 : Array (Option Value)} {oc56 kV56 dc56 pm56 cd56 ct56 : Value}
    {f57 : Addr} {od57 an57 : Option Addr} {sl57 : Array (Option Value)} {oc57 kV57 dc57 pm57 cd57 ct57 : Value}
    {f58 : Addr} {od58 an58 : Option Addr} {sl58 : Array (Option Value)} {oc58 kV58 dc58 pm58 cd58 ct58 : Value}
    {f59 : Addr} {od59 an59 : Option Addr} {sl59 : Array (Option Value)} {oc59 kV59 dc59 pm59 cd59 ct59 : Value}
    {f60 : Addr} {od60 an60 : Option Addr} {sl60 : Array (Option Value)} {oc60 kV60 dc60 pm60 cd60 ct60 : Value}
    {f61 : Addr} {od61 an61 : Option Addr} {sl61 : Array (Option Value)} {oc61 kV61 dc61 pm61 cd61 ct61 : Value}
    {f62 : Addr} {od62 an62 : Option Addr} {sl62 : Array (Option Value)} {oc62 kV62 dc62 pm62 cd62 ct62 : Value}
    {f63 : Addr} {od63 an63 : Option Addr} {sl63 : Array (Option Value)} {oc63 kV63 dc63 pm63 cd63 ct63 : Value}
    {f64 : Addr} {od64 an64 : Option Addr} {sl64 : Array (Option Value)} {oc64 kV64 dc64 pm64 cd64 ct64 : Value}
    {f65 : Addr} {od65 an65 : Option Addr} {sl65 : Array (Option Value)} {oc65 kV65 dc65 pm65 cd65 ct65 : Value}
    (a0 : PySem.W.nsIn K mainGlobals "is_whole" = some (some (.ref f0))) (l0 : K.lookup f0 = some ⟨oc0, od0, .func (PySem.W.fnOf "is_whole" "is_whole" (defArgs s_is_whole) (defBody s_is_whole) (defScope s_is_whole) .none kV0 dc0 pm0 an0 cd0 ct0), sl0⟩) (c0 : PySem.W.codeIn K cd0 "is_whole" = true) (k0 : PySem.W.keepIn K (.ref f0) = true)
    (a1 : PySem.W.nsIn K mainGlobals "is_between" = some (some (.ref f1))) (l1 : K.lookup f1 = some ⟨oc1, od1, .func (PySem.W.fnOf "is_between" "is_between" (defArgs s_is_between) (defBody s_is_between) (defScope s_is_between) .none kV1 dc1 pm1 an1 cd1 ct1), sl1⟩) (c1 : PySem.W.codeIn K cd1 "is_between" = true) (k1 : PySem.W.keepIn K (.ref f1) = true)
    (a2 : PySem.W.nsIn K mainGlobals "are_between" = some (some (.ref f2))) (l2 : K.lookup f2 = some ⟨oc2, od2, .func (PySem.W.fnOf "are_between" "are_between" (defArgs s_are_between) (defBody s_are_between) (defScope s_are_between) .none kV2 dc2 pm2 an2 cd2 ct2), sl2⟩) (c2 : PySem.W.codeIn K cd2 "are_between" = true) (k2 : PySem.W.keepIn K (.ref f2) = true)
    (a3 : PySem.W.nsIn K mainGlobals "is_measure" = some (some (.ref f3))) (l3 : K.lookup f3 = some ⟨oc3, od3, .func (PySem.W.fnOf "is_measure" "is_measure" (defArgs s_is_measure) (defBody s_is_measure) (defScope s_is_measure) .none kV3 dc3 pm3 an3 cd3 ct3), sl3⟩) (c3 : PySem.W.codeIn K cd3 "is_measure" = true) (k3 : PySem.W.keepIn K (.ref f3) = true)
    (a4 : PySem.W.nsIn K mainGlobals "is_spot" = some (some (.ref f4))) (l4 : K.lookup f4 = some ⟨oc4, od4, .func (PySem.W.fnOf "is_spot" "is_spot" (defArgs s_is_spot) (defBody s_is_spot) (defScope s_is_spot) .none kV4 dc4 pm4 an4 cd4 ct4), sl4⟩) (c4 : PySem.W.codeIn K cd4 "is_spot" = true) (k4 : PySem.W.keepIn K (.ref f4) = true)
    (a5 : PySem.W.nsIn K mainGlobals "is_grain" = some (some (.ref f5))) (l5 : K.lookup f5 = some ⟨oc5, od5, .func (PySem.W.fnOf "is_grain" "is_grain" (defArgs s_is_grain) (defBody s_is_grain) (defScope s_is_grain) .none kV5 dc5 pm5 an5 cd5 ct5), sl5⟩) (c5 : PySem.W.codeIn K cd5 "is_grain" = true) (k5 : PySem.W.keepIn K (.ref f5) = true)
    (a6 : PySem.W.nsIn K mainGlobals "is_lie" = some (some (.ref f6))) (l6 : K.lookup f6 = some ⟨oc6, od6, .func (PySem.W.fnOf "is_lie" "is_lie" (defArgs s_is_lie) (defBody s_is_lie) (defScope s_is_lie) .none kV6 dc6 pm6 an6 cd6 ct6), sl6⟩) (c6 : PySem.W.codeIn K cd6 "is_lie" = true) (k6 : PySem.W.keepIn K (.ref f6) = true)
    (a7 : PySem.W.nsIn K mainGlobals "is_mark" = some (some (.ref f7))) (l7 : K.lookup f7 = some ⟨oc7, od7, .func (PySem.W.fnOf "is_mark" "is_mark" (defArgs s_is_mark) (defBody s_is_mark) (defScope s_is_mark) .none kV7 dc7 pm7 an7 cd7 ct7), sl7⟩) (c7 : PySem.W.codeIn K cd7 "is_mark" = true) (k7 : PySem.W.keepIn K (.ref f7) = true)
    (a8 : PySem.W.nsIn K mainGlobals "are_joints" = some (some (.ref f8))) (l8 : K.lookup f8 = some ⟨oc8, od8, .func (PySem.W.fnOf "are_joints" "are_joints" (defArgs s_are_joints) (defBody s_are_joints) (defScope s_are_joints) .none kV8 dc8 pm8 an8 cd8 ct8), sl8⟩) (c8 : PySem.W.codeIn K cd8 "are_joints" = true) (k8 : PySem.W.keepIn K (.ref f8) = true)
    (a9 : PySem.W.nsIn K mainGlobals "is_bed" = some (some (.ref f9))) (l9 : K.lookup f9 = some ⟨oc9, od9, .func (PySem.W.fnOf "is_bed" "is_bed" (defArgs s_is_bed) (defBody s_is_bed) (defScope s_is_bed) .none kV9 dc9 pm9 an9 cd9 ct9), sl9⟩) (c9 : PySem.W.codeIn K cd9 "is_bed" = true) (k9 : PySem.W.keepIn K (.ref f9) = true)
    (a10 : PySem.W.nsIn K mainGlobals "are_beds" = some (some (.ref f10))) (l10 : K.lookup f10 = some ⟨oc10, od10, .func (PySem.W.fnOf "are_beds" "are_beds" (defArgs s_are_beds) (defBody s_are_beds) (defScope s_are_beds) .none kV10 dc10 pm10 an10 cd10 ct10), sl10⟩) (c10 : PySem.W.codeIn K cd10 "are_beds" = true) (k10 : PySem.W.keepIn K (.ref f10) = true)
    (a11 : PySem.W.nsIn K mainGlobals "joints_stand" = some (some (.ref f11))) (l11 : K.lookup f11 = some ⟨oc11, od11, .func (PySem.W.fnOf "joints_stand" "joints_stand" (defArgs s_joints_stand) (defBody s_joints_stand) (defScope s_joints_stand) .none kV11 dc11 pm11 an11 cd11 ct11), sl11⟩) (c11 : PySem.W.codeIn K cd11 "joints_stand" = true) (k11 : PySem.W.keepIn K (.ref f11) = true)
    (a12 : PySem.W.nsIn K mainGlobals "stretches_of" = some (some (.ref f12))) (l12 : K.lookup f12 = some ⟨oc12, od12, .func (PySem.W.fnOf "stretches_of" "stretches_of" (defArgs s_stretches_of) (defBody s_stretches_of) (defScope s_stretches_of) .none kV12 dc12 pm12 an12 cd12 ct12), sl12⟩) (c12 : PySem.W.codeIn K cd12 "stretches_of" = true) (k12 : PySem.W.keepIn K (.ref f12) = true)
    (a13 : PySem.W.nsIn K mainGlobals "like_bed" = some (some (.ref f13))) (l13 : K.lookup f13 = some ⟨oc13, od13, .func (PySem.W.fnOf "like_bed" "like_bed" (defArgs s_like_bed) (defBody s_like_bed) (defScope s_like_bed) .none kV13 dc13 pm13 an13 cd13 ct13), sl13⟩) (c13 : PySem.W.codeIn K cd13 "like_bed" = true) (k13 : PySem.W.keepIn K (.ref f13) = true)
    (a14 : PySem.W.nsIn K mainGlobals "pieces_of" = some (some (.ref f14))) (l14 : K.lookup f14 = some ⟨oc14, od14, .func (PySem.W.fnOf "pieces_of" "pieces_of" (defArgs s_pieces_of) (defBody s_pieces_of) (defScope s_pieces_of) .none kV14 dc14 pm14 an14 cd14 ct14), sl14⟩) (c14 : PySem.W.codeIn K cd14 "pieces_of" = true) (k14 : PySem.W.keepIn K (.ref f14) = true)
    (a15 : PySem.W.findIn K (.ref D_Bench) "__init__" = some (some (.ref f15))) (i15 : PySem.W.isFn K (.ref f15) = true) (l15 : K.lookup f15 = some ⟨oc15, od15, .func (PySem.W.fnOf "__init__" "Bench.__init__" (defArgs s_Bench_init) (defBody s_Bench_init) (defScope s_Bench_init) .none kV15 dc15 pm15 an15 cd15 ct15), sl15⟩) (c15 : PySem.W.codeIn K cd15 "Bench.__init__" = true) (k15 : PySem.W.keepIn K (.ref f15) = true)
    (a16 : PySem.W.findIn K (.ref D_Bench) "size" = some (some (.ref f16))) (i16 : PySem.W.isFn K (.ref f16) = true) (l16 : K.lookup f16 = some ⟨oc16, od16, .func (PySem.W.fnOf "size" "Bench.size" (defArgs s_Bench_size) (defBody s_Bench_size) (defScope s_Bench_size) .none kV16 dc16 pm16 an16 cd16 ct16), sl16⟩) (c16 : PySem.W.codeIn K cd16 "Bench.size" = true) (k16 : PySem.W.keepIn K (.ref f16) = true)
    (a17 : PySem.W.findIn K (.ref D_Bench) "beds" = some (some (.ref f17))) (i17 : PySem.W.isFn K (.ref f17) = true) (l17 : K.lookup f17 = some ⟨oc17, od17, .func (PySem.W.fnOf "beds" "Bench.beds" (defArgs s_Bench_beds) (defBody s_Bench_beds) (defScope s_Bench_beds) .none kV17 dc17 pm17 an17 cd17 ct17), sl17⟩) (c17 : PySem.W.codeIn K cd17 "Bench.beds" = true) (k17 : PySem.W.keepIn K (.ref f17) = true)
    (a18 : PySem.W.findIn K (.ref D_Bench) "many" = some (some (.ref f18))) (i18 : PySem.W.isFn K (.ref f18) = true) (l18 : K.lookup f18 = some ⟨oc18, od18, .func (PySem.W.fnOf "many" "Bench.many" (defArgs s_Bench_many) (defBody s_Bench_many) (defScope s_Bench_many) .none kV18 dc18 pm18 an18 cd18 ct18), sl18⟩) (c18 : PySem.W.codeIn K cd18 "Bench.many" = true) (k18 : PySem.W.keepIn K (.ref f18) = true)
    (a19 : PySem.W.findIn K (.ref D_Bench) "piece_kept" = some (some (.ref f19))) (i19 : PySem.W.isFn K (.ref f19) = true) (l19 : K.lookup f19 = some ⟨oc19, od19, .func (PySem.W.fnOf "piece_kept" "Bench.piece_kept" (defArgs s_Bench_piece_kept) (defBody s_Bench_piece_kept) (defScope s_Bench_piece_kept) .none kV19 dc19 pm19 an19 cd19 ct19), sl19⟩) (c19 : PySem.W.codeIn K cd19 "Bench.piece_kept" = true) (k19 : PySem.W.keepIn K (.ref f19) = true)
    (a20 : PySem.W.findIn K (.ref D_Bench) "box" = some (some (.ref f20))) (i20 : PySem.W.isFn K (.ref f20) = true) (l20 : K.lookup f20 = some ⟨oc20, od20, .func (PySem.W.fnOf "box" "Bench.box" (defArgs s_Bench_box) (defBody s_Bench_box) (defScope s_Bench_box) .none kV20 dc20 pm20 an20 cd20 ct20), sl20⟩) (c20 : PySem.W.codeIn K cd20 "Bench.box" = true) (k20 : PySem.W.keepIn K (.ref f20) = true)
    (a21 : PySem.W.findIn K (.ref D_Bench) "grain" = some (some (.ref f21))) (i21 : PySem.W.isFn K (.ref f21) = true) (l21 : K.lookup f21 = some ⟨oc21, od21, .func (PySem.W.fnOf "grain" "Bench.grain" (defArgs s_Bench_grain) (defBody s_Bench_grain) (defScope s_Bench_grain) .none kV21 dc21 pm21 an21 cd21 ct21), sl21⟩) (c21 : PySem.W.codeIn K cd21 "Bench.grain" = true) (k21 : PySem.W.keepIn K (.ref f21) = true)
    (a22 : PySem.W.findIn K (.ref D_Bench) "heavy" = some (some (.ref f22))) (i22 : PySem.W.isFn K (.ref f22) = true) (l22 : K.lookup f22 = some ⟨oc22, od22, .func (PySem.W.fnOf "heavy" "Bench.heavy" (defArgs s_Bench_heavy) (defBody s_Bench_heavy) (defScope s_Bench_heavy) .none kV22 dc22 pm22 an22 cd22 ct22), sl22⟩) (c22 : PySem.W.codeIn K cd22 "Bench.heavy" = true) (k22 : PySem.W.keepIn K (.ref f22) = true)
    (a23 : PySem.W.nsIn K mainGlobals "is_place" = some (some (.ref f23))) (l23 : K.lookup f23 = some ⟨oc23, od23, .func (PySem.W.fnOf "is_place" "is_place" (defArgs s_is_place) (defBody s_is_place) (defScope s_is_place) .none kV23 dc23 pm23 an23 cd23 ct23), sl23⟩) (c23 : PySem.W.codeIn K cd23 "is_place" = true) (k23 : PySem.W.keepIn K (.ref f23) = true)
    (a24 : PySem.W.nsIn K mainGlobals "is_course" = some (some (.ref f24))) (l24 : K.lookup f24 = some ⟨oc24, od24, .func (PySem.W.fnOf "is_course" "is_course" (defArgs s_is_course) (defBody s_is_course) (defScope s_is_course) .none kV24 dc24 pm24 an24 cd24 ct24), sl24⟩) (c24 : PySem.W.codeIn K cd24 "is_course" = true) (k24 : PySem.W.keepIn K (.ref f24) = true)
    (a25 : PySem.W.nsIn K mainGlobals "are_courses" = some (some (.ref f25))) (l25 : K.lookup f25 = some ⟨oc25, od25, .func (PySem.W.fnOf "are_courses" "are_courses" (defArgs s_are_courses) (defBody s_are_courses) (defScope s_are_courses) .none kV25 dc25 pm25 an25 cd25 ct25), sl25⟩) (c25 : PySem.W.codeIn K cd25 "are_courses" = true) (k25 : PySem.W.keepIn K (.ref f25) = true)
    (a26 : PySem.W.nsIn K mainGlobals "need_order" = some (some (.ref f26))) (l26 : K.lookup f26 = some ⟨oc26, od26, .func (PySem.W.fnOf "need_order" "need_order" (defArgs s_need_order) (defBody s_need_order) (defScope s_need_order) .none kV26 dc26 pm26 an26 cd26 ct26), sl26⟩) (c26 : PySem.W.codeIn K cd26 "need_order" = true) (k26 : PySem.W.keepIn K (.ref f26) = true)
    (a27 : PySem.W.nsIn K mainGlobals "spans_share" = some (some (.ref f27))) (l27 : K.lookup f27 = some ⟨oc27, od27, .func (PySem.W.fnOf "spans_share" "spans_share" (defArgs s_spans_share) (defBody s_spans_share) (defScope s_spans_share) .none kV27 dc27 pm27 an27 cd27 ct27), sl27⟩) (c27 : PySem.W.codeIn K cd27 "spans_share" = true) (k27 : PySem.W.keepIn K (.ref f27) = true)
    (a28 : PySem.W.findIn K (.ref D_Wall) "__init__" = some (some (.ref f28))) (i28 : PySem.W.isFn K (.ref f28) = true) (l28 : K.lookup f28 = some ⟨oc28, od28, .func (PySem.W.fnOf "__init__" "Wall.__init__" (defArgs s_Wall_init) (defBody s_Wall_init) (defScope s_Wall_init) .none kV28 dc28 pm28 an28 cd28 ct28), sl28⟩) (c28 : PySem.W.codeIn K cd28 "Wall.__init__" = true) (k28 : PySem.W.keepIn K (.ref f28) = true)
    (a29 : PySem.W.findIn K (.ref D_Wall) "marks" = some (some (.ref f29))) (i29 : PySem.W.isFn K (.ref f29) = true) (l29 : K.lookup f29 = some ⟨oc29, od29, .func (PySem.W.fnOf "marks" "Wall.marks" (defArgs s_Wall_marks) (defBody s_Wall_marks) (defScope s_Wall_marks) .none kV29 dc29 pm29 an29 cd29 ct29), sl29⟩) (c29 : PySem.W.codeIn K cd29 "Wall.marks" = true) (k29 : PySem.W.keepIn K (.ref f29) = true)
    (a30 : PySem.W.findIn K (.ref D_Wall) "courses" = some (some (.ref f30))) (i30 : PySem.W.isFn K (.ref f30) = true) (l30 : K.lookup f30 = some ⟨oc30, od30, .func (PySem.W.fnOf "courses" "Wall.courses" (defArgs s_Wall_courses) (defBody s_Wall_courses) (defScope s_Wall_courses) .none kV30 dc30 pm30 an30 cd30 ct30), sl30⟩) (c30 : PySem.W.codeIn K cd30 "Wall.courses" = true) (k30 : PySem.W.keepIn K (.ref f30) = true)
    (a31 : PySem.W.findIn K (.ref D_Wall) "places_in" = some (some (.ref f31))) (i31 : PySem.W.isFn K (.ref f31) = true) (l31 : K.lookup f31 = some ⟨oc31, od31, .func (PySem.W.fnOf "places_in" "Wall.places_in" (defArgs s_Wall_places_in) (defBody s_Wall_places_in) (defScope s_Wall_places_in) .none kV31 dc31 pm31 an31 cd31 ct31), sl31⟩) (c31 : PySem.W.codeIn K cd31 "Wall.places_in" = true) (k31 : PySem.W.keepIn K (.ref f31) = true)
    (a32 : PySem.W.findIn K (.ref D_Wall) "place_kept" = some (some (.ref f32))) (i32 : PySem.W.isFn K (.ref f32) = true) (l32 : K.lookup f32 = some ⟨oc32, od32, .func (PySem.W.fnOf "place_kept" "Wall.place_kept" (defArgs s_Wall_place_kept) (defBody s_Wall_place_kept) (defScope s_Wall_place_kept) .none kV32 dc32 pm32 an32 cd32 ct32), sl32⟩) (c32 : PySem.W.codeIn K cd32 "Wall.place_kept" = true) (k32 : PySem.W.keepIn K (.ref f32) = true)
    (a33 : PySem.W.findIn K (.ref D_Wall) "need" = some (some (.ref f33))) (i33 : PySem.W.isFn K (.ref f33) = true) (l33 : K.lookup f33 = some ⟨oc33, od33, .func (PySem.W.fnOf "need" "Wall.need" (defArgs s_Wall_need) (defBody s_Wall_need) (defScope s_Wall_need) .none kV33 dc33 pm33 an33 cd33 ct33), sl33⟩) (c33 : PySem.W.codeIn K cd33 "Wall.need" = true) (k33 : PySem.W.keepIn K (.ref f33) = true)
    (a34 : PySem.W.findIn K (.ref D_Wall) "sharing" = some (some (.ref f34))) (i34 : PySem.W.isFn K (.ref f34) = true) (l34 : K.lookup f34 = some ⟨oc34, od34, .func (PySem.W.fnOf "sharing" "Wall.sharing" (defArgs s_Wall_sharing) (defBody s_Wall_sharing) (defScope s_Wall_sharing) .none kV34 dc34 pm34 an34 cd34 ct34), sl34⟩) (c34 : PySem.W.codeIn K cd34 "Wall.sharing" = true) (k34 : PySem.W.keepIn K (.ref f34) = true)
    (a35 : PySem.W.findIn K (.ref D_Wall) "beneath" = some (some (.ref f35))) (i35 : PySem.W.isFn K (.ref f35) = true) (l35 : K.lookup f35 = some ⟨oc35, od35, .func (PySem.W.fnOf "beneath" "Wall.beneath" (defArgs s_Wall_beneath) (defBody s_Wall_beneath) (defScope s_Wall_beneath) .none kV35 dc35 pm35 an35 cd35 ct35), sl35⟩) (c35 : PySem.W.codeIn K cd35 "Wall.beneath" = true) (k35 : PySem.W.keepIn K (.ref f35) = true)
    (a36 : PySem.W.findIn K (.ref D_Wall) "upon" = some (some (.ref f36))) (i36 : PySem.W.isFn K (.ref f36) = true) (l36 : K.lookup f36 = some ⟨oc36, od36, .func (PySem.W.fnOf "upon" "Wall.upon" (defArgs s_Wall_upon) (defBody s_Wall_upon) (defScope s_Wall_upon) .none kV36 dc36 pm36 an36 cd36 ct36), sl36⟩) (c36 : PySem.W.codeIn K cd36 "Wall.upon" = true) (k36 : PySem.W.keepIn K (.ref f36) = true)
    (a37 : PySem.W.nsIn K mainGlobals "whole_in" = some (some (.ref f37))) (l37 : K.lookup f37 = some ⟨oc37, od37, .func (PySem.W.fnOf "whole_in" "whole_in" (defArgs s_whole_in) (defBody s_whole_in) (defScope s_whole_in) .none kV37 dc37 pm37 an37 cd37 ct37), sl37⟩) (c37 : PySem.W.codeIn K cd37 "whole_in" = true) (k37 : PySem.W.keepIn K (.ref f37) = true)
    (a38 : PySem.W.nsIn K mainGlobals "show_joints" = some (some (.ref f38))) (l38 : K.lookup f38 = some ⟨oc38, od38, .func (PySem.W.fnOf "show_joints" "show_joints" (defArgs s_show_joints) (defBody s_show_joints) (defScope s_show_joints) .none kV38 dc38 pm38 an38 cd38 ct38), sl38⟩) (c38 : PySem.W.codeIn K cd38 "show_joints" = true) (k38 : PySem.W.keepIn K (.ref f38) = true)
    (a39 : PySem.W.nsIn K mainGlobals "show_plan" = some (some (.ref f39))) (l39 : K.lookup f39 = some ⟨oc39, od39, .func (PySem.W.fnOf "show_plan" "show_plan" (defArgs s_show_plan) (defBody s_show_plan) (defScope s_show_plan) .none kV39 dc39 pm39 an39 cd39 ct39), sl39⟩) (c39 : PySem.W.codeIn K cd39 "show_plan" = true) (k39 : PySem.W.keepIn K (.ref f39) = true)
    (a40 : PySem.W.nsIn K mainGlobals "joints_in" = some (some (.ref f40))) (l40 : K.lookup f40 = some ⟨oc40, od40, .func (PySem.W.fnOf "joints_in" "joints_in" (defArgs s_joints_in) (defBody s_joints_in) (defScope s_joints_in) .none kV40 dc40 pm40 an40 cd40 ct40), sl40⟩) (c40 : PySem.W.codeIn K cd40 "joints_in" = true) (k40 : PySem.W.keepIn K (.ref f40) = true)
    (a41 : PySem.W.nsIn K mainGlobals "bed_in" = some (some (.ref f41))) (l41 : K.lookup f41 = some ⟨oc41, od41, .func (PySem.W.fnOf "bed_in" "bed_in" (defArgs s_bed_in) (defBody s_bed_in) (defScope s_bed_in) .none kV41 dc41 pm41 an41 cd41 ct41), sl41⟩) (c41 : PySem.W.codeIn K cd41 "bed_in" = true) (k41 : PySem.W.keepIn K (.ref f41) = true)
    (a42 : PySem.W.nsIn K mainGlobals "place_in" = some (some (.ref f42))) (l42 : K.lookup f42 = some ⟨oc42, od42, .func (PySem.W.fnOf "place_in" "place_in" (defArgs s_place_in) (defBody s_place_in) (defScope s_place_in) .none kV42 dc42 pm42 an42 cd42 ct42), sl42⟩) (c42 : PySem.W.codeIn K cd42 "place_in" = true) (k42 : PySem.W.keepIn K (.ref f42) = true)
    (a43 : PySem.W.nsIn K mainGlobals "head_taken" = some (some (.ref f43))) (l43 : K.lookup f43 = some ⟨oc43, od43, .func (PySem.W.fnOf "head_taken" "head_taken" (defArgs s_head_taken) (defBody s_head_taken) (defScope s_head_taken) .none kV43 dc43 pm43 an43 cd43 ct43), sl43⟩) (c43 : PySem.W.codeIn K cd43 "head_taken" = true) (k43 : PySem.W.keepIn K (.ref f43) = true)
    (a44 : PySem.W.nsIn K mainGlobals "row_taken" = some (some (.ref f44))) (l44 : K.lookup f44 = some ⟨oc44, od44, .func (PySem.W.fnOf "row_taken" "row_taken" (defArgs s_row_taken) (defBody s_row_taken) (defScope s_row_taken) .none kV44 dc44 pm44 an44 cd44 ct44), sl44⟩) (c44 : PySem.W.codeIn K cd44 "row_taken" = true) (k44 : PySem.W.keepIn K (.ref f44) = true)
    (a45 : PySem.W.nsIn K mainGlobals "read_plan" = some (some (.ref f45))) (l45 : K.lookup f45 = some ⟨oc45, od45, .func (PySem.W.fnOf "read_plan" "read_plan" (defArgs s_read_plan) (defBody s_read_plan) (defScope s_read_plan) .none kV45 dc45 pm45 an45 cd45 ct45), sl45⟩) (c45 : PySem.W.codeIn K cd45 "read_plan" = true) (k45 : PySem.W.keepIn K (.ref f45) = true)
    (a46 : PySem.W.nsIn K mainGlobals "_law_bag" = some (some (.ref f46))) (l46 : K.lookup f46 = some ⟨oc46, od46, .func (PySem.W.fnOf "_law_bag" "_law_bag" (defArgs s_bag) (defBody s_bag) (defScope s_bag) .none kV46 dc46 pm46 an46 cd46 ct46), sl46⟩) (c46 : PySem.W.codeIn K cd46 "_law_bag" = true) (k46 : PySem.W.keepIn K (.ref f46) = true)
    (a47 : PySem.W.nsIn K mainGlobals "_law_take" = some (some (.ref f47))) (l47 : K.lookup f47 = some ⟨oc47, od47, .func (PySem.W.fnOf "_law_take" "_law_take" (defArgs s_take) (defBody s_take) (defScope s_take) .none kV47 dc47 pm47 an47 cd47 ct47), sl47⟩) (c47 : PySem.W.codeIn K cd47 "_law_take" = true) (k47 : PySem.W.keepIn K (.ref f47) = true)
    (a48 : PySem.W.nsIn K mainGlobals "_law_alike" = some (some (.ref f48))) (l48 : K.lookup f48 = some ⟨oc48, od48, .func (PySem.W.fnOf "_law_alike" "_law_alike" (defArgs s_alike) (defBody s_alike) (defScope s_alike) .none kV48 dc48 pm48 an48 cd48 ct48), sl48⟩) (c48 : PySem.W.codeIn K cd48 "_law_alike" = true) (k48 : PySem.W.keepIn K (.ref f48) = true)
    (a49 : PySem.W.nsIn K mainGlobals "_law_grains" = some (some (.ref f49))) (l49 : K.lookup f49 = some ⟨oc49, od49, .func (PySem.W.fnOf "_law_grains" "_law_grains" (defArgs s_grains) (defBody s_grains) (defScope s_grains) .none kV49 dc49 pm49 an49 cd49 ct49), sl49⟩) (c49 : PySem.W.codeIn K cd49 "_law_grains" = true) (k49 : PySem.W.keepIn K (.ref f49) = true)
    (a50 : PySem.W.nsIn K mainGlobals "_law_rising" = some (some (.ref f50))) (l50 : K.lookup f50 = some ⟨oc50, od50, .func (PySem.W.fnOf "_law_rising" "_law_rising" (defArgs s_rising) (defBody s_rising) (defScope s_rising) .none kV50 dc50 pm50 an50 cd50 ct50), sl50⟩) (c50 : PySem.W.codeIn K cd50 "_law_rising" = true) (k50 : PySem.W.keepIn K (.ref f50) = true)
    (a51 : PySem.W.nsIn K mainGlobals "_law_measure" = some (some (.ref f51))) (l51 : K.lookup f51 = some ⟨oc51, od51, .func (PySem.W.fnOf "_law_measure" "_law_measure" (defArgs s_measure) (defBody s_measure) (defScope s_measure) .none kV51 dc51 pm51 an51 cd51 ct51), sl51⟩) (c51 : PySem.W.codeIn K cd51 "_law_measure" = true) (k51 : PySem.W.keepIn K (.ref f51) = true)
    (a52 : PySem.W.nsIn K mainGlobals "_law_bed" = some (some (.ref f52))) (l52 : K.lookup f52 = some ⟨oc52, od52, .func (PySem.W.fnOf "_law_bed" "_law_bed" (defArgs s_bed) (defBody s_bed) (defScope s_bed) .none kV52 dc52 pm52 an52 cd52 ct52), sl52⟩) (c52 : PySem.W.codeIn K cd52 "_law_bed" = true) (k52 : PySem.W.keepIn K (.ref f52) = true)
    (a53 : PySem.W.nsIn K mainGlobals "_law_bench" = some (some (.ref f53))) (l53 : K.lookup f53 = some ⟨oc53, od53, .func (PySem.W.fnOf "_law_bench" "_law_bench" (defArgs s_bench) (defBody s_bench) (defScope s_bench) .none kV53 dc53 pm53 an53 cd53 ct53), sl53⟩) (c53 : PySem.W.codeIn K cd53 "_law_bench" = true) (k53 : PySem.W.keepIn K (.ref f53) = true)
    (a54 : PySem.W.nsIn K mainGlobals "_law_wide" = some (some (.ref f54))) (l54 : K.lookup f54 = some ⟨oc54, od54, .func (PySem.W.fnOf "_law_wide" "_law_wide" (defArgs s_wide) (defBody s_wide) (defScope s_wide) .none kV54 dc54 pm54 an54 cd54 ct54), sl54⟩) (c54 : PySem.W.codeIn K cd54 "_law_wide" = true) (k54 : PySem.W.keepIn K (.ref f54) = true)
    (a55 : PySem.W.nsIn K mainGlobals "_law_place" = some (some (.ref f55))) (l55 : K.lookup f55 = some ⟨oc55, od55, .func (PySem.W.fnOf "_law_place" "_law_place" (defArgs s_place) (defBody s_place) (defScope s_place) .none kV55 dc55 pm55 an55 cd55 ct55), sl55⟩) (c55 : PySem.W.codeIn K cd55 "_law_place" = true) (k55 : PySem.W.keepIn K (.ref f55) = true)
    (a56 : PySem.W.nsIn K mainGlobals "_law_row" = some (some (.ref f56))) (l56 : K.lookup f56 = some ⟨oc56, od56, .func (PySem.W.fnOf "_law_row" "_law_row" (defArgs s_row) (defBody s_row) (defScope s_row) .none kV56 dc56 pm56 an56 cd56 ct56), sl56⟩) (c56 : PySem.W.codeIn K cd56 "_law_row" = true) (k56 : PySem.W.keepIn K (.ref f56) = true)
    (a57 : PySem.W.nsIn K mainGlobals "_law_share" = some (some (.ref f57))) (l57 : K.lookup f57 = some ⟨oc57, od57, .func (PySem.W.fnOf "_law_share" "_law_share" (defArgs s_share) (defBody s_share) (defScope s_share) .none kV57 dc57 pm57 an57 cd57 ct57), sl57⟩) (c57 : PySem.W.codeIn K cd57 "_law_share" = true) (k57 : PySem.W.keepIn K (.ref f57) = true)
    (a58 : PySem.W.nsIn K mainGlobals "_law_edges" = some (some (.ref f58))) (l58 : K.lookup f58 = some ⟨oc58, od58, .func (PySem.W.fnOf "_law_edges" "_law_edges" (defArgs s_edges) (defBody s_edges) (defScope s_edges) .none kV58 dc58 pm58 an58 cd58 ct58), sl58⟩) (c58 : PySem.W.codeIn K cd58 "_law_edges" = true) (k58 : PySem.W.keepIn K (.ref f58) = true)
    (a59 : PySem.W.nsIn K mainGlobals "_law_shut" = some (some (.ref f59))) (l59 : K.lookup f59 = some ⟨oc59, od59, .func (PySem.W.fnOf "_law_shut" "_law_shut" (defArgs s_shut) (defBody s_shut) (defScope s_shut) .none kV59 dc59 pm59 an59 cd59 ct59), sl59⟩) (c59 : PySem.W.codeIn K cd59 "_law_shut" = true) (k59 : PySem.W.keepIn K (.ref f59) = true)
    (a60 : PySem.W.nsIn K mainGlobals "_law_joints_text" = some (some (.ref f60))) (l60 : K.lookup f60 = some ⟨oc60, od60, .func (PySem.W.fnOf "_law_joints_text" "_law_joints_text" (defArgs s_joints_text) (defBody s_joints_text) (defScope s_joints_text) .none kV60 dc60 pm60 an60 cd60 ct60), sl60⟩) (c60 : PySem.W.codeIn K cd60 "_law_joints_text" = true) (k60 : PySem.W.keepIn K (.ref f60) = true)
    (a61 : PySem.W.nsIn K mainGlobals "_law_plan_rows" = some (some (.ref f61))) (l61 : K.lookup f61 = some ⟨oc61, od61, .func (PySem.W.fnOf "_law_plan_rows" "_law_plan_rows" (defArgs s_plan_rows) (defBody s_plan_rows) (defScope s_plan_rows) .none kV61 dc61 pm61 an61 cd61 ct61), sl61⟩) (c61 : PySem.W.codeIn K cd61 "_law_plan_rows" = true) (k61 : PySem.W.keepIn K (.ref f61) = true)
    (a62 : PySem.W.nsIn K mainGlobals "_law_bench_told" = some (some (.ref f62))) (l62 : K.lookup f62 = some ⟨oc62, od62, .func (PySem.W.fnOf "_law_bench_told" "_law_bench_told" (defArgs s_bench_told) (defBody s_bench_told) (defScope s_bench_told) .none kV62 dc62 pm62 an62 cd62 ct62), sl62⟩) (c62 : PySem.W.codeIn K cd62 "_law_bench_told" = true) (k62 : PySem.W.keepIn K (.ref f62) = true)
    (a63 : PySem.W.nsIn K mainGlobals "_law_shut_told" = some (some (.ref f63))) (l63 : K.lookup f63 = some ⟨oc63, od63, .func (PySem.W.fnOf "_law_shut_told" "_law_shut_told" (defArgs s_shut_told) (defBody s_shut_told) (defScope s_shut_told) .none kV63 dc63 pm63 an63 cd63 ct63), sl63⟩) (c63 : PySem.W.codeIn K cd63 "_law_shut_told" = true) (k63 : PySem.W.keepIn K (.ref f63) = true)
    (a64 : PySem.W.nsIn K mainGlobals "_law_read_right" = some (some (.ref f64))) (l64 : K.lookup f64 = some ⟨oc64, od64, .func (PySem.W.fnOf "_law_read_right" "_law_read_right" (defArgs s_read_right) (defBody s_read_right) (defScope s_read_right) .none kV64 dc64 pm64 an64 cd64 ct64), sl64⟩) (c64 : PySem.W.codeIn K cd64 "_law_read_right" = true) (k64 : PySem.W.keepIn K (.ref f64) = true)
    (a65 : PySem.W.nsIn K mainGlobals "law" = some (some (.ref f65))) (l65 : K.lookup f65 = some ⟨oc65, od65, .func (PySem.W.fnOf "law" "law" (defArgs s_law) (defBody s_law) (defScope s_law) .none kV65 dc65 pm65 an65 cd65 ct65), sl65⟩) (c65 : PySem.W.codeIn K cd65 "law" = true) (k65 : PySem.W.keepIn K (.ref f65) = true)
    (z0 : PySem.W.nsIn K mainGlobals "abs" = some none)
    (z1 : PySem.W.nsIn K mainGlobals "all" = some none)
    (z2 : PySem.W.nsIn K mainGlobals "any" = some none)
    (z3 : PySem.W.nsIn K mainGlobals "bool" = some none)
    (z4 : PySem.W.nsIn K mainGlobals "enumerate" = some none)
    (z5 : PySem.W.nsIn K mainGlobals "int" = some none)
    (z6 : PySem.W.nsIn K mainGlobals "isinstance" = some none)
    (z7 : PySem.W.nsIn K mainGlobals "len" = some none)
    (z8 : PySem.W.nsIn K mainGlobals "list" = some none)
    (z9 : PySem.W.nsIn K mainGlobals "max" = some none)
    (z10 : PySem.W.nsIn K mainGlobals "min" = some none)
    (z11 : PySem.W.nsIn K mainGlobals "range" = some none)
    (z12 : PySem.W.nsIn K mainGlobals "repr" = some none)
    (z13 : PySem.W.nsIn K mainGlobals "str" = some none)
    (z14 : PySem.W.nsIn K mainGlobals "sum" = some none)
    (z15 : PySem.W.nsIn K mainGlobals "tuple" = some none)
    {t0 : Tok} (y0 : PySem.W.nsIn K mainGlobals "FAR_bench" = some (some (.int 1000000 t0)))
    {t1 : Tok} (y1 : PySem.W.nsIn K mainGlobals "FAR_wall" = some (some (.int 1000000 t1)))
    {t2 : Tok} (y2 : PySem.W.nsIn K mainGlobals "FIGURES" = some (some (.str ("0123456789" : Str) t2)))
    {t3 : Tok} (y3 : PySem.W.nsIn K mainGlobals "LETTERS" = some (some (.str ("abcdefghijklmnopqrstuvwxyz" : Str) t3)))
    {t4 : Tok} (y4 : PySem.W.nsIn K mainGlobals "LONGEST_GRAIN" = some (some (.int 8 t4)))
    {t5 : Tok} (y5 : PySem.W.nsIn K mainGlobals "MOST_BEDS_bench" = some (some (.int 6 t5)))
    {t6 : Tok} (y6 : PySem.W.nsIn K mainGlobals "MOST_BEDS_texts" = some (some (.int 6 t6)))
    {t7 : Tok} (y7 : PySem.W.nsIn K mainGlobals "MOST_BORNE" = some (some (.int 1000000000000000000000 t7)))
    {t8 : Tok} (y8 : PySem.W.nsIn K mainGlobals "MOST_COURSES_texts" = some (some (.int 6 t8)))
    {t9 : Tok} (y9 : PySem.W.nsIn K mainGlobals "MOST_COURSES_wall" = some (some (.int 6 t9)))
    {t10 : Tok} (y10 : PySem.W.nsIn K mainGlobals "MOST_FIGURES" = some (some (.int 22 t10)))
    {t11 : Tok} (y11 : PySem.W.nsIn K mainGlobals "MOST_HEAVY_bench" = some (some (.int 1000 t11)))
    {t12 : Tok} (y12 : PySem.W.nsIn K mainGlobals "MOST_HEAVY_texts" = some (some (.int 1000 t12)))
    {t13 : Tok} (y13 : PySem.W.nsIn K mainGlobals "MOST_JOINTS_bench" = some (some (.int 23 t13)))
    {t14 : Tok} (y14 : PySem.W.nsIn K mainGlobals "MOST_JOINTS_texts" = some (some (.int 23 t14)))
    {t15 : Tok} (y15 : PySem.W.nsIn K mainGlobals "MOST_MEASURE" = some (some (.int 1000000 t15)))
    {t16 : Tok} (y16 : PySem.W.nsIn K mainGlobals "MOST_OF_MARK" = some (some (.int 24 t16)))
    {t17 : Tok} (y17 : PySem.W.nsIn K mainGlobals "MOST_PIECES" = some (some (.int 24 t17)))
    {t18 : Tok} (y18 : PySem.W.nsIn K mainGlobals "MOST_PLACES_texts" = some (some (.int 24 t18)))
    {t19 : Tok} (y19 : PySem.W.nsIn K mainGlobals "MOST_PLACES_wall" = some (some (.int 24 t19)))
    {tt0_0 tt0_1 tt0_2 : Tok} {aT0 : Addr} {dT0 : Option Addr} {nT0 : Nat} {slT0 : Array (Option Value)} (yt0 : PySem.W.nsIn K mainGlobals "LIES" = some (some (.ref aT0))) (kt0 : K.lookup aT0 = some ⟨.type "tuple", dT0, .seq #[.str ("along" : Str) tt0_0, .str ("across" : Str) tt0_1, .str ("either" : Str) tt0_2] nT0, slT0⟩)
    (kA_Bench : PySem.W.nsIn K mainGlobals "Bench" = some (some (.ref D_Bench)))
    (kP_Bench : PySem.W.plainGet K D_Bench Str.empty = true)
    (kD_Bench : PySem.W.hasDictIn K D_Bench = true)
    (kO_Bench : PySem.W.plainOver K D_Bench = true)
    (kS_Bench : PySem.W.findIn K (.ref D_Bench) "__setattr__" = some (some (.builtin "object.__setattr__")))
    (kM_Bench : PySem.W.makesIn K D_Bench = true)
    (kK_Bench : PySem.W.keepIn K (.ref D_Bench) = true)
    (kF_Bench : PySem.W.findIn K (.ref D_Bench) "__class__" = some (some (.builtin "object.__class__")))
    (kG_Bench : PySem.W.mroIn K D_Bench (.type "object") = some true)
    (kT_Bench : PySem.W.typeIn K (.ref D_Bench) = some (.type "type"))
    (kU_Bench : PySem.W.subIn K (.ref D_Bench) (.ref D_Bench) = some true)
    (kV_Bench : PySem.W.specialIn K (.builtin "object.__class__") "__get__" = some (some (.builtin "getset_descriptor.__get__")))
    (kW_Bench : PySem.W.takesIn K (.builtin "object.__class__") = some true)
    (kN_Bench_kept_beds : PySem.W.findIn K (.ref D_Bench) "kept_beds" = some none)
    (kN_Bench_kept_pieces : PySem.W.findIn K (.ref D_Bench) "kept_pieces" = some none)
    (kN_Bench_long_and_wide : PySem.W.findIn K (.ref D_Bench) "long_and_wide" = some none)
    (kN_Bench_top : PySem.W.findIn K (.ref D_Bench) "top" = some none)
    (kA_Wall : PySem.W.nsIn K mainGlobals "Wall" = some (some (.ref D_Wall)))
    (kP_Wall : PySem.W.plainGet K D_Wall Str.empty = true)
    (kD_Wall : PySem.W.hasDictIn K D_Wall = true)
    (kO_Wall : PySem.W.plainOver K D_Wall = true)
    (kS_Wall : PySem.W.findIn K (.ref D_Wall) "__setattr__" = some (some (.builtin "object.__setattr__")))
    (kM_Wall : PySem.W.makesIn K D_Wall = true)
    (kK_Wall : PySem.W.keepIn K (.ref D_Wall) = true)
    (kF_Wall : PySem.W.findIn K (.ref D_Wall) "__class__" = some (some (.builtin "object.__class__")))
    (kG_Wall : PySem.W.mroIn K D_Wall (.type "object") = some true)
    (kT_Wall : PySem.W.typeIn K (.ref D_Wall) = some (.type "type"))
    (kU_Wall : PySem.W.subIn K (.ref D_Wall) (.ref D_Wall) = some true)
    (kV_Wall : PySem.W.specialIn K (.builtin "object.__class__") "__get__" = some (some (.builtin "getset_descriptor.__get__")))
    (kW_Wall : PySem.W.takesIn K (.builtin "object.__class__") = some true)
    (kN_Wall_kept_courses : PySem.W.findIn K (.ref D_Wall) "kept_courses" = some none)
    {D_NoBed D_NoMark D_NoPiece D_NoPlace D_NoPlan D_StoneError D_TooMany D_Unborne D_Wrong : Addr}
    (u_NoBed : PySem.W.nsIn K mainGlobals "NoBed" = some (some (.ref D_NoBed)))
    (u_NoMark : PySem.W.nsIn K mainGlobals "NoMark" = some (some (.ref D_NoMark)))
    (u_NoPiece : PySem.W.nsIn K mainGlobals "NoPiece" = some (some (.ref D_NoPiece)))
    (u_NoPlace : PySem.W.nsIn K mainGlobals "NoPlace" = some (some (.ref D_NoPlace)))
    (u_NoPlan : PySem.W.nsIn K mainGlobals "NoPlan" = some (some (.ref D_NoPlan)))
    (u_StoneError : PySem.W.nsIn K mainGlobals "StoneError" = some (some (.ref D_StoneError)))
    (u_TooMany : PySem.W.nsIn K mainGlobals "TooMany" = some (some (.ref D_TooMany)))
    (u_Unborne : PySem.W.nsIn K mainGlobals "Unborne" = some (some (.ref D_Unborne)))
    (u_Wrong : PySem.W.nsIn K mainGlobals "Wrong" = some (some (.ref D_Wrong)))
    (b5 : PySem.W.specialIn K (.ref D_StoneError) "__getattribute__" = some (some (.builtin "type.__getattribute__")))
    (b6 : PySem.W.readsIn K D_StoneError (.type "type") = true)
    (b7 : PySem.W.findCls K (.ref D_StoneError) (.type "type") "__init__" = some (.val (.builtin "ValueError.__init__")))
    (b8 : PySem.W.specialIn K (.builtin "object.__class__") "__get__" = some (some (.builtin "getset_descriptor.__get__")))
    (b9 : PySem.W.takesIn K (.builtin "object.__class__") = some true)
    (v_StoneError_1 : PySem.W.subIn K (.ref D_StoneError) (.type "BaseException") = some true)
    (v_StoneError_2 : PySem.W.hasDictIn K D_StoneError = true)
    (v_StoneError_3 : PySem.W.typeIn K (.ref D_StoneError) = some (.type "type"))
    {I_NoBed N_NoBed : Addr} {nm_NoBed q_NoBed : Str} {bs_NoBed bm_NoBed : List Value} {sn_NoBed : List Str} {sub_NoBed : List Value} {ab_NoBed : Bool} {col_NoBed : Option Bool} {dd_NoBed : Option Addr} {k0_NoBed k1_NoBed k2_NoBed k3_NoBed k5_NoBed : Option Value}
    {oc_NoBed kV_NoBed doc_NoBed pm_NoBed cdv_NoBed ct_NoBed : Value} {od_NoBed an_NoBed : Option Addr} {sl_NoBed : Array (Option Value)}
    (x_NoBed_1 : K.lookup D_NoBed = some (excClassObj nm_NoBed q_NoBed D_NoBed N_NoBed bs_NoBed bm_NoBed true sn_NoBed sub_NoBed ab_NoBed col_NoBed dd_NoBed k0_NoBed k1_NoBed k2_NoBed k3_NoBed k5_NoBed "ValueError.__new__"))
    (x_NoBed_2 : PySem.HandSPX.refsVE bm_NoBed = true)
    (x_NoBed_3 : PySem.W.findIn K (.ref D_NoBed) "__setattr__" = some (some (.builtin "object.__setattr__")))
    (x_NoBed_4 : PySem.W.subIn K (.ref D_NoBed) (.type "BaseException") = some true)
    (x_NoBed_5 : PySem.W.typeIn K (.ref D_NoBed) = some (.type "type"))
    (x_NoBed_6 : PySem.W.keepIn K (.ref D_NoBed) = true)
    (x_NoBed_7 : PySem.W.findIn K (.ref D_NoBed) "__init__" = some (some (.ref I_NoBed)))
    (x_NoBed_8 : PySem.W.typeIn K (.ref I_NoBed) = some (.type "function"))
    (x_NoBed_9 : K.lookup I_NoBed = some ⟨oc_NoBed, od_NoBed, .func (PySem.W.fnOf "__init__" "NoBed.__init__" (defArgs s_ini_NoBed) (defBody s_ini_NoBed) (defScope s_ini_NoBed) .none kV_NoBed doc_NoBed pm_NoBed an_NoBed cdv_NoBed ct_NoBed), sl_NoBed⟩)
    (x_NoBed_a : PySem.W.codeIn K cdv_NoBed "NoBed.__init__" = true)
    (x_NoBed_b : PySem.W.keepIn K (.ref I_NoBed) = true)
    (x_NoBed_c : PySem.W.findIn K (.ref D_NoBed) "__getattribute__" = some (some (.builtin "BaseException.__getattribute__")))
    (x_NoBed_d : PySem.W.findIn K (.ref D_NoBed) "__getattr__" = some none)
    (x_NoBed_e : PySem.W.hasDictIn K D_NoBed = true)
    (x_NoBed_f : PySem.W.findIn K (.ref D_NoBed) "__class__" = some (some (.builtin "object.__class__")))
    (x_NoBed_g : PySem.W.mroIn K D_NoBed (.type "object") = some true)
    (x_NoBed_h : PySem.W.subIn K (.ref D_NoBed) (.type "ValueError") = some true)
    (c_NoBed_StoneError : PySem.W.subIn K (.ref D_NoBed) (.ref D_StoneError) = some true)
    (f_NoBed_at : PySem.W.findIn K (.ref D_NoBed) "at" = some none)
    (f_NoBed_mark : PySem.W.findIn K (.ref D_NoBed) "mark" = some none)
    (f_NoBed_most : PySem.W.findIn K (.ref D_NoBed) "most" = some none)
    (f_NoBed_piece : PySem.W.findIn K (.ref D_NoBed) "piece" = some none)
    {I_NoMark N_NoMark : Addr} {nm_NoMark q_NoMark : Str} {bs_NoMark bm_NoMark : List Value} {sn_NoMark : List Str} {sub_NoMark : List Value} {ab_NoMark : Bool} {col_NoMark : Option Bool} {dd_NoMark : Option Addr} {k0_NoMark k1_NoMark k2_NoMark k3_NoMark k5_NoMark : Option Value}
    {oc_NoMark kV_NoMark doc_NoMark pm_NoMark cdv_NoMark ct_NoMark : Value} {od_NoMark an_NoMark : Option Addr} {sl_NoMark : Array (Option Value)}
    (x_NoMark_1 : K.lookup D_NoMark = some (excClassObj nm_NoMark q_NoMark D_NoMark N_NoMark bs_NoMark bm_NoMark true sn_NoMark sub_NoMark ab_NoMark col_NoMark dd_NoMark k0_NoMark k1_NoMark k2_NoMark k3_NoMark k5_NoMark "ValueError.__new__"))
    (x_NoMark_2 : PySem.HandSPX.refsVE bm_NoMark = true)
    (x_NoMark_3 : PySem.W.findIn K (.ref D_NoMark) "__setattr__" = some (some (.builtin "object.__setattr__")))
    (x_NoMark_4 : PySem.W.subIn K (.ref D_NoMark) (.type "BaseException") = some true)
    (x_NoMark_5 : PySem.W.typeIn K (.ref D_NoMark) = some (.type "type"))
    (x_NoMark_6 : PySem.W.keepIn K (.ref D_NoMark) = true)
    (x_NoMark_7 : PySem.W.findIn K (.ref D_NoMark) "__init__" = some (some (.ref I_NoMark)))
    (x_NoMark_8 : PySem.W.typeIn K (.ref I_NoMark) = some (.type "function"))
    (x_NoMark_9 : K.lookup I_NoMark = some ⟨oc_NoMark, od_NoMark, .func (PySem.W.fnOf "__init__" "NoMark.__init__" (defArgs s_ini_NoMark) (defBody s_ini_NoMark) (defScope s_ini_NoMark) .none kV_NoMark doc_NoMark pm_NoMark an_NoMark cdv_NoMark ct_NoMark), sl_NoMark⟩)
    (x_NoMark_a : PySem.W.codeIn K cdv_NoMark "NoMark.__init__" = true)
    (x_NoMark_b : PySem.W.keepIn K (.ref I_NoMark) = true)
    (x_NoMark_c : PySem.W.findIn K (.ref D_NoMark) "__getattribute__" = some (some (.builtin "BaseException.__getattribute__")))
    (x_NoMark_d : PySem.W.findIn K (.ref D_NoMark) "__getattr__" = some none)
    (x_NoMark_e : PySem.W.hasDictIn K D_NoMark = true)
    (x_NoMark_f : PySem.W.findIn K (.ref D_NoMark) "__class__" = some (some (.builtin "object.__class__")))
    (x_NoMark_g : PySem.W.mroIn K D_NoMark (.type "object") = some true)
    (x_NoMark_h : PySem.W.subIn K (.ref D_NoMark) (.type "ValueError") = some true)
    (c_NoMark_StoneError : PySem.W.subIn K (.ref D_NoMark) (.ref D_StoneError) = some true)
    (f_NoMark_at : PySem.W.findIn K (.ref D_NoMark) "at" = some none)
    (f_NoMark_mark : PySem.W.findIn K (.ref D_NoMark) "mark" = some none)
    (f_NoMark_most : PySem.W.findIn K (.ref D_NoMark) "most" = some none)
    (f_NoMark_piece : PySem.W.findIn K (.ref D_NoMark) "piece" = some none)
    {I_NoPiece N_NoPiece : Addr} {nm_NoPiece q_NoPiece : Str} {bs_NoPiece bm_NoPiece : List Value} {sn_NoPiece : List Str} {sub_NoPiece : List Value} {ab_NoPiece : Bool} {col_NoPiece : Option Bool} {dd_NoPiece : Option Addr} {k0_NoPiece k1_NoPiece k2_NoPiece k3_NoPiece k5_NoPiece : Option Value}
    {oc_NoPiece kV_NoPiece doc_NoPiece pm_NoPiece cdv_NoPiece ct_NoPiece : Value} {od_NoPiece an_NoPiece : Option Addr} {sl_NoPiece : Array (Option Value)}
    (x_NoPiece_1 : K.lookup D_NoPiece = some (excClassObj nm_NoPiece q_NoPiece D_NoPiece N_NoPiece bs_NoPiece bm_NoPiece true sn_NoPiece sub_NoPiece ab_NoPiece col_NoPiece dd_NoPiece k0_NoPiece k1_NoPiece k2_NoPiece k3_NoPiece k5_NoPiece "ValueError.__new__"))
    (x_NoPiece_2 : PySem.HandSPX.refsVE bm_NoPiece = true)
    (x_NoPiece_3 : PySem.W.findIn K (.ref D_NoPiece) "__setattr__" = some (some (.builtin "object.__setattr__")))
    (x_NoPiece_4 : PySem.W.subIn K (.ref D_NoPiece) (.type "BaseException") = some true)
    (x_NoPiece_5 : PySem.W.typeIn K (.ref D_NoPiece) = some (.type "type"))
    (x_NoPiece_6 : PySem.W.keepIn K (.ref D_NoPiece) = true)
    (x_NoPiece_7 : PySem.W.findIn K (.ref D_NoPiece) "__init__" = some (some (.ref I_NoPiece)))
    (x_NoPiece_8 : PySem.W.typeIn K (.ref I_NoPiece) = some (.type "function"))
    (x_NoPiece_9 : K.lookup I_NoPiece = some ⟨oc_NoPiece, od_NoPiece, .func (PySem.W.fnOf "__init__" "NoPiece.__init__" (defArgs s_ini_NoPiece) (defBody s_ini_NoPiece) (defScope s_ini_NoPiece) .none kV_NoPiece doc_NoPiece pm_NoPiece an_NoPiece cdv_NoPiece ct_NoPiece), sl_NoPiece⟩)
    (x_NoPiece_a : PySem.W.codeIn K cdv_NoPiece "NoPiece.__init__" = true)
    (x_NoPiece_b : PySem.W.keepIn K (.ref I_NoPiece) = true)
    (x_NoPiece_c : PySem.W.findIn K (.ref D_NoPiece) "__getattribute__" = some (some (.builtin "BaseException.__getattribute__")))
    (x_NoPiece_d : PySem.W.findIn K (.ref D_NoPiece) "__getattr__" = some none)
    (x_NoPiece_e : PySem.W.hasDictIn K D_NoPiece = true)
    (x_NoPiece_f : PySem.W.findIn K (.ref D_NoPiece) "__class__" = some (some (.builtin "object.__class__")))
    (x_NoPiece_g : PySem.W.mroIn K D_NoPiece (.type "object") = some true)
    (x_NoPiece_h : PySem.W.subIn K (.ref D_NoPiece) (.type "ValueError") = some true)
    (c_NoPiece_StoneError : PySem.W.subIn K (.ref D_NoPiece) (.ref D_StoneError) = some true)
    (f_NoPiece_at : PySem.W.findIn K (.ref D_NoPiece) "at" = some none)
    (f_NoPiece_mark : PySem.W.findIn K (.ref D_NoPiece) "mark" = some none)
    (f_NoPiece_most : PySem.W.findIn K (.ref D_NoPiece) "most" = some none)
    (f_NoPiece_piece : PySem.W.findIn K (.ref D_NoPiece) "piece" = some none)
    {I_NoPlace N_NoPlace : Addr} {nm_NoPlace q_NoPlace : Str} {bs_NoPlace bm_NoPlace : List Value} {sn_NoPlace : List Str} {sub_NoPlace : List Value} {ab_NoPlace : Bool} {col_NoPlace : Option Bool} {dd_NoPlace : Option Addr} {k0_NoPlace k1_NoPlace k2_NoPlace k3_NoPlace k5_NoPlace : Option Value}
    {oc_NoPlace kV_NoPlace doc_NoPlace pm_NoPlace cdv_NoPlace ct_NoPlace : Value} {od_NoPlace an_NoPlace : Option Addr} {sl_NoPlace : Array (Option Value)}
    (x_NoPlace_1 : K.lookup D_NoPlace = some (excClassObj nm_NoPlace q_NoPlace D_NoPlace N_NoPlace bs_NoPlace bm_NoPlace true sn_NoPlace sub_NoPlace ab_NoPlace col_NoPlace dd_NoPlace k0_NoPlace k1_NoPlace k2_NoPlace k3_NoPlace k5_NoPlace "ValueError.__new__"))
    (x_NoPlace_2 : PySem.HandSPX.refsVE bm_NoPlace = true)
    (x_NoPlace_3 : PySem.W.findIn K (.ref D_NoPlace) "__setattr__" = some (some (.builtin "object.__setattr__")))
    (x_NoPlace_4 : PySem.W.subIn K (.ref D_NoPlace) (.type "BaseException") = some true)
    (x_NoPlace_5 : PySem.W.typeIn K (.ref D_NoPlace) = some (.type "type"))
    (x_NoPlace_6 : PySem.W.keepIn K (.ref D_NoPlace) = true)
    (x_NoPlace_7 : PySem.W.findIn K (.ref D_NoPlace) "__init__" = some (some (.ref I_NoPlace)))
    (x_NoPlace_8 : PySem.W.typeIn K (.ref I_NoPlace) = some (.type "function"))
    (x_NoPlace_9 : K.lookup I_NoPlace = some ⟨oc_NoPlace, od_NoPlace, .func (PySem.W.fnOf "__init__" "NoPlace.__init__" (defArgs s_ini_NoPlace) (defBody s_ini_NoPlace) (defScope s_ini_NoPlace) .none kV_NoPlace doc_NoPlace pm_NoPlace an_NoPlace cdv_NoPlace ct_NoPlace), sl_NoPlace⟩)
    (x_NoPlace_a : PySem.W.codeIn K cdv_NoPlace "NoPlace.__init__" = true)
    (x_NoPlace_b : PySem.W.keepIn K (.ref I_NoPlace) = true)
    (x_NoPlace_c : PySem.W.findIn K (.ref D_NoPlace) "__getattribute__" = some (some (.builtin "BaseException.__getattribute__")))
    (x_NoPlace_d : PySem.W.findIn K (.ref D_NoPlace) "__getattr__" = some none)
    (x_NoPlace_e : PySem.W.hasDictIn K D_NoPlace = true)
    (x_NoPlace_f : PySem.W.findIn K (.ref D_NoPlace) "__class__" = some (some (.builtin "object.__class__")))
    (x_NoPlace_g : PySem.W.mroIn K D_NoPlace (.type "object") = some true)
    (x_NoPlace_h : PySem.W.subIn K (.ref D_NoPlace) (.type "ValueError") = some true)
    (c_NoPlace_StoneError : PySem.W.subIn K (.ref D_NoPlace) (.ref D_StoneError) = some true)
    (f_NoPlace_at : PySem.W.findIn K (.ref D_NoPlace) "at" = some none)
    (f_NoPlace_mark : PySem.W.findIn K (.ref D_NoPlace) "mark" = some none)
    (f_NoPlace_most : PySem.W.findIn K (.ref D_NoPlace) "most" = some none)
    (f_NoPlace_piece : PySem.W.findIn K (.ref D_NoPlace) "piece" = some none)
    {I_NoPlan N_NoPlan : Addr} {nm_NoPlan q_NoPlan : Str} {bs_NoPlan bm_NoPlan : List Value} {sn_NoPlan : List Str} {sub_NoPlan : List Value} {ab_NoPlan : Bool} {col_NoPlan : Option Bool} {dd_NoPlan : Option Addr} {k0_NoPlan k1_NoPlan k2_NoPlan k3_NoPlan k5_NoPlan : Option Value}
    {oc_NoPlan kV_NoPlan doc_NoPlan pm_NoPlan cdv_NoPlan ct_NoPlan : Value} {od_NoPlan an_NoPlan : Option Addr} {sl_NoPlan : Array (Option Value)}
    (x_NoPlan_1 : K.lookup D_NoPlan = some (excClassObj nm_NoPlan q_NoPlan D_NoPlan N_NoPlan bs_NoPlan bm_NoPlan true sn_NoPlan sub_NoPlan ab_NoPlan col_NoPlan dd_NoPlan k0_NoPlan k1_NoPlan k2_NoPlan k3_NoPlan k5_NoPlan "ValueError.__new__"))
    (x_NoPlan_2 : PySem.HandSPX.refsVE bm_NoPlan = true)
    (x_NoPlan_3 : PySem.W.findIn K (.ref D_NoPlan) "__setattr__" = some (some (.builtin "object.__setattr__")))
    (x_NoPlan_4 : PySem.W.subIn K (.ref D_NoPlan) (.type "BaseException") = some true)
    (x_NoPlan_5 : PySem.W.typeIn K (.ref D_NoPlan) = some (.type "type"))
    (x_NoPlan_6 : PySem.W.keepIn K (.ref D_NoPlan) = true)
    (x_NoPlan_7 : PySem.W.findIn K (.ref D_NoPlan) "__init__" = some (some (.ref I_NoPlan)))
    (x_NoPlan_8 : PySem.W.typeIn K (.ref I_NoPlan) = some (.type "function"))
    (x_NoPlan_9 : K.lookup I_NoPlan = some ⟨oc_NoPlan, od_NoPlan, .func (PySem.W.fnOf "__init__" "NoPlan.__init__" (defArgs s_ini_NoPlan) (defBody s_ini_NoPlan) (defScope s_ini_NoPlan) .none kV_NoPlan doc_NoPlan pm_NoPlan an_NoPlan cdv_NoPlan ct_NoPlan), sl_NoPlan⟩)
    (x_NoPlan_a : PySem.W.codeIn K cdv_NoPlan "NoPlan.__init__" = true)
    (x_NoPlan_b : PySem.W.keepIn K (.ref I_NoPlan) = true)
    (x_NoPlan_c : PySem.W.findIn K (.ref D_NoPlan) "__getattribute__" = some (some (.builtin "BaseException.__getattribute__")))
    (x_NoPlan_d : PySem.W.findIn K (.ref D_NoPlan) "__getattr__" = some none)
    (x_NoPlan_e : PySem.W.hasDictIn K D_NoPlan = true)
    (x_NoPlan_f : PySem.W.findIn K (.ref D_NoPlan) "__class__" = some (some (.builtin "object.__class__")))
    (x_NoPlan_g : PySem.W.mroIn K D_NoPlan (.type "object") = some true)
    (x_NoPlan_h : PySem.W.subIn K (.ref D_NoPlan) (.type "ValueError") = some true)
    (c_NoPlan_StoneError : PySem.W.subIn K (.ref D_NoPlan) (.ref D_StoneError) = some true)
    (f_NoPlan_at : PySem.W.findIn K (.ref D_NoPlan) "at" = some none)
    (f_NoPlan_mark : PySem.W.findIn K (.ref D_NoPlan) "mark" = some none)
    (f_NoPlan_most : PySem.W.findIn K (.ref D_NoPlan) "most" = some none)
    (f_NoPlan_piece : PySem.W.findIn K (.ref D_NoPlan) "piece" = some none)
    {I_TooMany N_TooMany : Addr} {nm_TooMany q_TooMany : Str} {bs_TooMany bm_TooMany : List Value} {sn_TooMany : List Str} {sub_TooMany : List Value} {ab_TooMany : Bool} {col_TooMany : Option Bool} {dd_TooMany : Option Addr} {k0_TooMany k1_TooMany k2_TooMany k3_TooMany k5_TooMany : Option Value}
    {oc_TooMany kV_TooMany doc_TooMany pm_TooMany cdv_TooMany ct_TooMany : Value} {od_TooMany an_TooMany : Option Addr} {sl_TooMany : Array (Option Value)}
    (x_TooMany_1 : K.lookup D_TooMany = some (excClassObj nm_TooMany q_TooMany D_TooMany N_TooMany bs_TooMany bm_TooMany true sn_TooMany sub_TooMany ab_TooMany col_TooMany dd_TooMany k0_TooMany k1_TooMany k2_TooMany k3_TooMany k5_TooMany "ValueError.__new__"))
    (x_TooMany_2 : PySem.HandSPX.refsVE bm_TooMany = true)
    (x_TooMany_3 : PySem.W.findIn K (.ref D_TooMany) "__setattr__" = some (some (.builtin "object.__setattr__")))
    (x_TooMany_4 : PySem.W.subIn K (.ref D_TooMany) (.type "BaseException") = some true)
    (x_TooMany_5 : PySem.W.typeIn K (.ref D_TooMany) = some (.type "type"))
    (x_TooMany_6 : PySem.W.keepIn K (.ref D_TooMany) = true)
    (x_TooMany_7 : PySem.W.findIn K (.ref D_TooMany) "__init__" = some (some (.ref I_TooMany)))
    (x_TooMany_8 : PySem.W.typeIn K (.ref I_TooMany) = some (.type "function"))
    (x_TooMany_9 : K.lookup I_TooMany = some ⟨oc_TooMany, od_TooMany, .func (PySem.W.fnOf "__init__" "TooMany.__init__" (defArgs s_ini_TooMany) (defBody s_ini_TooMany) (defScope s_ini_TooMany) .none kV_TooMany doc_TooMany pm_TooMany an_TooMany cdv_TooMany ct_TooMany), sl_TooMany⟩)
    (x_TooMany_a : PySem.W.codeIn K cdv_TooMany "TooMany.__init__" = true)
    (x_TooMany_b : PySem.W.keepIn K (.ref I_TooMany) = true)
    (x_TooMany_c : PySem.W.findIn K (.ref D_TooMany) "__getattribute__" = some (some (.builtin "BaseException.__getattribute__")))
    (x_TooMany_d : PySem.W.findIn K (.ref D_TooMany) "__getattr__" = some none)
    (x_TooMany_e : PySem.W.hasDictIn K D_TooMany = true)
    (x_TooMany_f : PySem.W.findIn K (.ref D_TooMany) "__class__" = some (some (.builtin "object.__class__")))
    (x_TooMany_g : PySem.W.mroIn K D_TooMany (.type "object") = some true)
    (x_TooMany_h : PySem.W.subIn K (.ref D_TooMany) (.type "ValueError") = some true)
    (c_TooMany_StoneError : PySem.W.subIn K (.ref D_TooMany) (.ref D_StoneError) = some true)
    (f_TooMany_at : PySem.W.findIn K (.ref D_TooMany) "at" = some none)
    (f_TooMany_mark : PySem.W.findIn K (.ref D_TooMany) "mark" = some none)
    (f_TooMany_most : PySem.W.findIn K (.ref D_TooMany) "most" = some none)
    (f_TooMany_piece : PySem.W.findIn K (.ref D_TooMany) "piece" = some none)
    {I_Unborne N_Unborne : Addr} {nm_Unborne q_Unborne : Str} {bs_Unborne bm_Unborne : List Value} {sn_Unborne : List Str} {sub_Unborne : List Value} {ab_Unborne : Bool} {col_Unborne : Option Bool} {dd_Unborne : Option Addr} {k0_Unborne k1_Unborne k2_Unborne k3_Unborne k5_Unborne : Option Value}
    {oc_Unborne kV_Unborne doc_Unborne pm_Unborne cdv_Unborne ct_Unborne : Value} {od_Unborne an_Unborne : Option Addr} {sl_Unborne : Array (Option Value)}
    (x_Unborne_1 : K.lookup D_Unborne = some (excClassObj nm_Unborne q_Unborne D_Unborne N_Unborne bs_Unborne bm_Unborne true sn_Unborne sub_Unborne ab_Unborne col_Unborne dd_Unborne k0_Unborne k1_Unborne k2_Unborne k3_Unborne k5_Unborne "ValueError.__new__"))
    (x_Unborne_2 : PySem.HandSPX.refsVE bm_Unborne = true)
    (x_Unborne_3 : PySem.W.findIn K (.ref D_Unborne) "__setattr__" = some (some (.builtin "object.__setattr__")))
    (x_Unborne_4 : PySem.W.subIn K (.ref D_Unborne) (.type "BaseException") = some true)
    (x_Unborne_5 : PySem.W.typeIn K (.ref D_Unborne) = some (.type "type"))
    (x_Unborne_6 : PySem.W.keepIn K (.ref D_Unborne) = true)
    (x_Unborne_7 : PySem.W.findIn K (.ref D_Unborne) "__init__" = some (some (.ref I_Unborne)))
    (x_Unborne_8 : PySem.W.typeIn K (.ref I_Unborne) = some (.type "function"))
    (x_Unborne_9 : K.lookup I_Unborne = some ⟨oc_Unborne, od_Unborne, .func (PySem.W.fnOf "__init__" "Unborne.__init__" (defArgs s_ini_Unborne) (defBody s_ini_Unborne) (defScope s_ini_Unborne) .none kV_Unborne doc_Unborne pm_Unborne an_Unborne cdv_Unborne ct_Unborne), sl_Unborne⟩)
    (x_Unborne_a : PySem.W.codeIn K cdv_Unborne "Unborne.__init__" = true)
    (x_Unborne_b : PySem.W.keepIn K (.ref I_Unborne) = true)
    (x_Unborne_c : PySem.W.findIn K (.ref D_Unborne) "__getattribute__" = some (some (.builtin "BaseException.__getattribute__")))
    (x_Unborne_d : PySem.W.findIn K (.ref D_Unborne) "__getattr__" = some none)
    (x_Unborne_e : PySem.W.hasDictIn K D_Unborne = true)
    (x_Unborne_f : PySem.W.findIn K (.ref D_Unborne) "__class__" = some (some (.builtin "object.__class__")))
    (x_Unborne_g : PySem.W.mroIn K D_Unborne (.type "object") = some true)
    (x_Unborne_h : PySem.W.subIn K (.ref D_Unborne) (.type "ValueError") = some true)
    (c_Unborne_StoneError : PySem.W.subIn K (.ref D_Unborne) (.ref D_StoneError) = some true)
    (f_Unborne_at : PySem.W.findIn K (.ref D_Unborne) "at" = some none)
    (f_Unborne_mark : PySem.W.findIn K (.ref D_Unborne) "mark" = some none)
    (f_Unborne_most : PySem.W.findIn K (.ref D_Unborne) "most" = some none)
    (f_Unborne_piece : PySem.W.findIn K (.ref D_Unborne) "piece" = some none)
    {I_Wrong N_Wrong : Addr} {nm_Wrong q_Wrong : Str} {bs_Wrong bm_Wrong : List Value} {sn_Wrong : List Str} {sub_Wrong : List Value} {ab_Wrong : Bool} {col_Wrong : Option Bool} {dd_Wrong : Option Addr} {k0_Wrong k1_Wrong k2_Wrong k3_Wrong k5_Wrong : Option Value}
    {oc_Wrong kV_Wrong doc_Wrong pm_Wrong cdv_Wrong ct_Wrong : Value} {od_Wrong an_Wrong : Option Addr} {sl_Wrong : Array (Option Value)}
    (x_Wrong_1 : K.lookup D_Wrong = some (excClassObj nm_Wrong q_Wrong D_Wrong N_Wrong bs_Wrong bm_Wrong true sn_Wrong sub_Wrong ab_Wrong col_Wrong dd_Wrong k0_Wrong k1_Wrong k2_Wrong k3_Wrong k5_Wrong "ValueError.__new__"))
    (x_Wrong_2 : PySem.HandSPX.refsVE bm_Wrong = true)
    (x_Wrong_3 : PySem.W.findIn K (.ref D_Wrong) "__setattr__" = some (some (.builtin "object.__setattr__")))
    (x_Wrong_4 : PySem.W.subIn K (.ref D_Wrong) (.type "BaseException") = some true)
    (x_Wrong_5 : PySem.W.typeIn K (.ref D_Wrong) = some (.type "type"))
    (x_Wrong_6 : PySem.W.keepIn K (.ref D_Wrong) = true)
    (x_Wrong_7 : PySem.W.findIn K (.ref D_Wrong) "__init__" = some (some (.ref I_Wrong)))
    (x_Wrong_8 : PySem.W.typeIn K (.ref I_Wrong) = some (.type "function"))
    (x_Wrong_9 : K.lookup I_Wrong = some ⟨oc_Wrong, od_Wrong, .func (PySem.W.fnOf "__init__" "Wrong.__init__" (defArgs s_ini_Wrong) (defBody s_ini_Wrong) (defScope s_ini_Wrong) .none kV_Wrong doc_Wrong pm_Wrong an_Wrong cdv_Wrong ct_Wrong), sl_Wrong⟩)
    (x_Wrong_a : PySem.W.codeIn K cdv_Wrong "Wrong.__init__" = true)
    (x_Wrong_b : PySem.W.keepIn K (.ref I_Wrong) = true)
    (x_Wrong_c : PySem.W.findIn K (.ref D_Wrong) "__getattribute__" = some (some (.builtin "BaseException.__getattribute__")))
    (x_Wrong_d : PySem.W.findIn K (.ref D_Wrong) "__getattr__" = some none)
    (x_Wrong_e : PySem.W.hasDictIn K D_Wrong = true)
    (x_Wrong_f : PySem.W.findIn K (.ref D_Wrong) "__class__" = some (some (.builtin "object.__class__")))
    (x_Wrong_g : PySem.W.mroIn K D_Wrong (.type "object") = some true)
    (x_Wrong_h : PySem.W.subIn K (.ref D_Wrong) (.type "ValueError") = some true)
    (c_Wrong_StoneError : PySem.W.subIn K (.ref D_Wrong) (.ref D_StoneError) = some true)
    (f_Wrong_at : PySem.W.findIn K (.ref D_Wrong) "at" = some none)
    (f_Wrong_mark : PySem.W.findIn K (.ref D_Wrong) "mark" = some none)
    (f_Wrong_most : PySem.W.findIn K (.ref D_Wrong) "most" = some none)
    (f_Wrong_piece : PySem.W.findIn K (.ref D_Wrong) "piece" = some none)
    : Callee P w K mg base 12 "law" ["_law_script"] [] (lawS 63) := by
  have B : Bt mg := ⟨PySem.W.mg_none_of X G z0, PySem.W.mg_none_of X G z1, PySem.W.mg_none_of X G z2, PySem.W.mg_none_of X G z3, PySem.W.mg_none_of X G z4, PySem.W.mg_none_of X G z5, PySem.W.mg_none_of X G z6, PySem.W.mg_none_of X G z7, PySem.W.mg_none_of X G z8, PySem.W.mg_none_of X G z9, PySem.W.mg_none_of X G z10, PySem.W.mg_none_of X G z11, PySem.W.mg_none_of X G z12, PySem.W.mg_none_of X G z13, PySem.W.mg_none_of X G z14, PySem.W.mg_none_of X G z15, ⟨_, PySem.W.mg_of X G y0⟩, ⟨_, PySem.W.mg_of X G y1⟩, ⟨_, PySem.W.mg_of X G y2⟩, ⟨_, PySem.W.mg_of X G y3⟩, ⟨_, PySem.W.mg_of X G y4⟩, ⟨_, PySem.W.mg_of X G y5⟩, ⟨_, PySem.W.mg_of X G y6⟩, ⟨_, PySem.W.mg_of X G y7⟩, ⟨_, PySem.W.mg_of X G y8⟩, ⟨_, PySem.W.mg_of X G y9⟩, ⟨_, PySem.W.mg_of X G y10⟩, ⟨_, PySem.W.mg_of X G y11⟩, ⟨_, PySem.W.mg_of X G y12⟩, ⟨_, PySem.W.mg_of X G y13⟩, ⟨_, PySem.W.mg_of X G y14⟩, ⟨_, PySem.W.mg_of X G y15⟩, ⟨_, PySem.W.mg_of X G y16⟩, ⟨_, PySem.W.mg_of X G y17⟩, ⟨_, PySem.W.mg_of X G y18⟩, ⟨_, PySem.W.mg_of X G y19⟩⟩
  have G_LIES : GlobT K mg "LIES" ["along", "across", "either"] := globT_of X G yt0 kt0
  obtain ⟨ca, e_NoBed, e_NoMark, e_NoPiece, e_NoPlace, e_NoPlan, e_StoneError, e_TooMany, e_Unborne, e_Wrong, e_Bench, e_Wall⟩ : ∃ ca : Str → Addr, ca "NoBed" = D_NoBed ∧ ca "NoMark" = D_NoMark ∧ ca "NoPiece" = D_NoPiece ∧ ca "NoPlace" = D_NoPlace ∧ ca "NoPlan" = D_NoPlan ∧ ca "StoneError" = D_StoneError ∧ ca "TooMany" = D_TooMany ∧ ca "Unborne" = D_Unborne ∧ ca "Wrong" = D_Wrong ∧ ca "Bench" = D_Bench ∧ ca "Wall" = D_Wall := ⟨fun x => if x = "NoBed" then D_NoBed else if x = "NoMark" then D_NoMark else if x = "NoPiece" then D_NoPiece else if x = "NoPlace" then D_NoPlace else if x = "NoPlan" then D_NoPlan else if x = "StoneError" then D_StoneError else if x = "TooMany" then D_TooMany else if x = "Unborne" then D_Unborne else if x = "Wrong" then D_Wrong else if x = "Bench" then D_Bench else if x = "Wall" then D_Wall else D_StoneError, by dsimp only; rw [if_pos rfl], by dsimp only; rw [if_neg (by decide)]; rw [if_pos rfl], by dsimp only; rw [if_neg (by decide)]; rw [if_neg (by decide)]; rw [if_pos rfl], by dsimp only; rw [if_neg (by decide)]; rw [if_neg (by decide)]; rw [if_neg (by decide)]; rw [if_pos rfl], by dsimp only; rw [if_neg (by decide)]; rw [if_neg (by decide)]; rw [if_neg (by decide)]; rw [if_neg (by decide)]; rw [if_pos rfl], by dsimp only; rw [if_neg (by decide)]; rw [if_neg (by decide)]; rw [if_neg (by decide)]; rw [if_neg (by decide)]; rw [if_neg (by decide)]; rw [if_pos rfl], by dsimp only; rw [if_neg (by decide)]; rw [if_neg (by decide)]; rw [if_neg (by decide)]; rw [if_neg (by decide)]; rw [if_neg (by decide)]; rw [if_neg (by decide)]; rw [if_pos rfl], by dsimp only; rw [if_neg (by decide)]; rw [if_neg (by decide)]; rw [if_neg (by decide)]; rw [if_neg (by decide)]; rw [if_neg (by decide)]; rw [if_neg (by decide)]; rw [if_neg (by decide)]; rw [if_pos rfl], by dsimp only; rw [if_neg (by decide)]; rw [if_neg (by decide)]; rw [if_neg (by decide)]; rw [if_neg (by decide)]; rw [if_neg (by decide)]; rw [if_neg (by decide)]; rw [if_neg (by decide)]; rw [if_neg (by decide)]; rw [if_pos rfl], by dsimp only; rw [if_neg (by decide)]; rw [if_neg (by decide)]; rw [if_neg (by decide)]; rw [if_neg (by decide)]; rw [if_neg (by decide)]; rw [if_neg (by decide)]; rw [if_neg (by decide)]; rw [if_neg (by decide)]; rw [if_neg (by decide)]; rw [if_pos rfl], by dsimp only; rw [if_neg (by decide)]; rw [if_neg (by decide)]; rw [if_neg (by decide)]; rw [if_neg (by decide)]; rw [if_neg (by decide)]; rw [if_neg (by decide)]; rw [if_neg (by decide)]; rw [if_neg (by decide)]; rw [if_neg (by decide)]; rw [if_neg (by decide)]; rw [if_pos rfl]⟩
  subst e_NoBed e_NoMark e_NoPiece e_NoPlace e_NoPlan e_StoneError e_TooMany e_Unborne e_Wrong e_Bench e_Wall
  have KC_Bench : Cls K (ca "Bench") := ⟨kP_Bench, kD_Bench, kO_Bench, kS_Bench⟩
  have KI_Bench : IsK K mg "Bench" (ca "Bench") := ⟨⟨KC_Bench, kF_Bench, kV_Bench, kW_Bench, kG_Bench, (kit_sub kD_Bench kT_Bench kU_Bench kU_Bench).trans (by decide)⟩, PySem.W.mg_of X G kA_Bench⟩
  have KN_Bench : ∀ x, x ∈ (["kept_beds", "kept_pieces", "long_and_wide", "top"] : List Str) → NoAttr K (ca "Bench") x := (all_in kN_Bench_kept_beds (all_in kN_Bench_kept_pieces (all_in kN_Bench_long_and_wide (all_in kN_Bench_top no_in))))
  have KC_Wall : Cls K (ca "Wall") := ⟨kP_Wall, kD_Wall, kO_Wall, kS_Wall⟩
  have KI_Wall : IsK K mg "Wall" (ca "Wall") := ⟨⟨KC_Wall, kF_Wall, kV_Wall, kW_Wall, kG_Wall, (kit_sub kD_Wall kT_Wall kU_Wall kU_Wall).trans (by decide)⟩, PySem.W.mg_of X G kA_Wall⟩
  have KN_Wall : ∀ x, x ∈ (["kept_courses"] : List Str) → NoAttr K (ca "Wall") x := (all_in kN_Wall_kept_courses no_in)
  have D_is_whole : DefAt K mg "is_whole" s_is_whole ["thing"] := def_at X G a0 l0 c0 k0 fun _ _ _ _ _ _ us hl => match us, hl with | [_], _ => rfl
  have D_is_between : DefAt K mg "is_between" s_is_between ["thing", "least", "most"] := def_at X G a1 l1 c1 k1 fun _ _ _ _ _ _ us hl => match us, hl with | [_, _, _], _ => rfl
  have D_are_between : DefAt K mg "are_between" s_are_between ["things", "least", "most"] := def_at X G a2 l2 c2 k2 fun _ _ _ _ _ _ us hl => match us, hl with | [_, _, _], _ => rfl
  have D_is_measure : DefAt K mg "is_measure" s_is_measure ["thing"] := def_at X G a3 l3 c3 k3 fun _ _ _ _ _ _ us hl => match us, hl with | [_], _ => rfl
  have D_is_spot : DefAt K mg "is_spot" s_is_spot ["thing"] := def_at X G a4 l4 c4 k4 fun _ _ _ _ _ _ us hl => match us, hl with | [_], _ => rfl
  have D_is_grain : DefAt K mg "is_grain" s_is_grain ["thing"] := def_at X G a5 l5 c5 k5 fun _ _ _ _ _ _ us hl => match us, hl with | [_], _ => rfl
  have D_is_lie : DefAt K mg "is_lie" s_is_lie ["thing"] := def_at X G a6 l6 c6 k6 fun _ _ _ _ _ _ us hl => match us, hl with | [_], _ => rfl
  have D_is_mark : DefAt K mg "is_mark" s_is_mark ["thing"] := def_at X G a7 l7 c7 k7 fun _ _ _ _ _ _ us hl => match us, hl with | [_], _ => rfl
  have D_are_joints : DefAt K mg "are_joints" s_are_joints ["thing"] := def_at X G a8 l8 c8 k8 fun _ _ _ _ _ _ us hl => match us, hl with | [_], _ => rfl
  have D_is_bed : DefAt K mg "is_bed" s_is_bed ["thing"] := def_at X G a9 l9 c9 k9 fun _ _ _ _ _ _ us hl => match us, hl with | [_], _ => rfl
  have D_are_beds : DefAt K mg "are_beds" s_are_beds ["thing"] := def_at X G a10 l10 c10 k10 fun _ _ _ _ _ _ us hl => match us, hl with | [_], _ => rfl
  have D_joints_stand : DefAt K mg "joints_stand" s_joints_stand ["joints", "end"] := def_at X G a11 l11 c11 k11 fun _ _ _ _ _ _ us hl => match us, hl with | [_, _], _ => rfl
  have D_stretches_of : DefAt K mg "stretches_of" s_stretches_of ["joints", "end"] := def_at X G a12 l12 c12 k12 fun _ _ _ _ _ _ us hl => match us, hl with | [_, _], _ => rfl
  have D_like_bed : DefAt K mg "like_bed" s_like_bed ["bed"] := def_at X G a13 l13 c13 k13 fun _ _ _ _ _ _ us hl => match us, hl with | [_], _ => rfl
  have D_pieces_of : DefAt K mg "pieces_of" s_pieces_of ["length", "width", "bed", "z"] := def_at X G a14 l14 c14 k14 fun _ _ _ _ _ _ us hl => match us, hl with | [_, _, _, _], _ => rfl
  obtain ⟨fd_Bench_init, Fu_Bench_init, bn_Bench_init⟩ := fun_at (x := "__init__") (qual := "Bench.__init__") (st := s_Bench_init) (ps := ["self", "length", "width", "beds"]) l15 c15 k15 fun _ _ _ _ _ _ us hl => match us, hl with | [_, _, _, _], _ => rfl
  have D_Bench_init : DefK K mg "Bench" (ca "Bench") "Bench.__init__" s_Bench_init ["self", "length", "width", "beds"] := ⟨_, fd_Bench_init, Fu_Bench_init, ⟨kM_Bench, a15, i15, kK_Bench⟩, PySem.W.mg_of X G kA_Bench, bn_Bench_init⟩
  obtain ⟨fd_Bench_size, Fu_Bench_size, bn_Bench_size⟩ := fun_at (x := "size") (qual := "Bench.size") (st := s_Bench_size) (ps := ["self"]) l16 c16 k16 fun _ _ _ _ _ _ us hl => match us, hl with | [_], _ => rfl
  have D_Bench_size : DefM K (ca "Bench") "size" "Bench.size" s_Bench_size ["self"] := ⟨_, fd_Bench_size, Fu_Bench_size, ⟨a16, i16, k16⟩, bn_Bench_size⟩
  obtain ⟨fd_Bench_beds, Fu_Bench_beds, bn_Bench_beds⟩ := fun_at (x := "beds") (qual := "Bench.beds") (st := s_Bench_beds) (ps := ["self"]) l17 c17 k17 fun _ _ _ _ _ _ us hl => match us, hl with | [_], _ => rfl
  have D_Bench_beds : DefM K (ca "Bench") "beds" "Bench.beds" s_Bench_beds ["self"] := ⟨_, fd_Bench_beds, Fu_Bench_beds, ⟨a17, i17, k17⟩, bn_Bench_beds⟩
  obtain ⟨fd_Bench_many, Fu_Bench_many, bn_Bench_many⟩ := fun_at (x := "many") (qual := "Bench.many") (st := s_Bench_many) (ps := ["self"]) l18 c18 k18 fun _ _ _ _ _ _ us hl => match us, hl with | [_], _ => rfl
  have D_Bench_many : DefM K (ca "Bench") "many" "Bench.many" s_Bench_many ["self"] := ⟨_, fd_Bench_many, Fu_Bench_many, ⟨a18, i18, k18⟩, bn_Bench_many⟩
  obtain ⟨fd_Bench_piece_kept, Fu_Bench_piece_kept, bn_Bench_piece_kept⟩ := fun_at (x := "piece_kept") (qual := "Bench.piece_kept") (st := s_Bench_piece_kept) (ps := ["self", "piece"]) l19 c19 k19 fun _ _ _ _ _ _ us hl => match us, hl with | [_, _], _ => rfl
  have D_Bench_piece_kept : DefM K (ca "Bench") "piece_kept" "Bench.piece_kept" s_Bench_piece_kept ["self", "piece"] := ⟨_, fd_Bench_piece_kept, Fu_Bench_piece_kept, ⟨a19, i19, k19⟩, bn_Bench_piece_kept⟩
  obtain ⟨fd_Bench_box, Fu_Bench_box, bn_Bench_box⟩ := fun_at (x := "box") (qual := "Bench.box") (st := s_Bench_box) (ps := ["self", "piece"]) l20 c20 k20 fun _ _ _ _ _ _ us hl => match us, hl with | [_, _], _ => rfl
  have D_Bench_box : DefM K (ca "Bench") "box" "Bench.box" s_Bench_box ["self", "piece"] := ⟨_, fd_Bench_box, Fu_Bench_box, ⟨a20, i20, k20⟩, bn_Bench_box⟩
  obtain ⟨fd_Bench_grain, Fu_Bench_grain, bn_Bench_grain⟩ := fun_at (x := "grain") (qual := "Bench.grain") (st := s_Bench_grain) (ps := ["self", "piece"]) l21 c21 k21 fun _ _ _ _ _ _ us hl => match us, hl with | [_, _], _ => rfl
  have D_Bench_grain : DefM K (ca "Bench") "grain" "Bench.grain" s_Bench_grain ["self", "piece"] := ⟨_, fd_Bench_grain, Fu_Bench_grain, ⟨a21, i21, k21⟩, bn_Bench_grain⟩
  obtain ⟨fd_Bench_heavy, Fu_Bench_heavy, bn_Bench_heavy⟩ := fun_at (x := "heavy") (qual := "Bench.heavy") (st := s_Bench_heavy) (ps := ["self", "piece"]) l22 c22 k22 fun _ _ _ _ _ _ us hl => match us, hl with | [_, _], _ => rfl
  have D_Bench_heavy : DefM K (ca "Bench") "heavy" "Bench.heavy" s_Bench_heavy ["self", "piece"] := ⟨_, fd_Bench_heavy, Fu_Bench_heavy, ⟨a22, i22, k22⟩, bn_Bench_heavy⟩
  have D_is_place : DefAt K mg "is_place" s_is_place ["thing"] := def_at X G a23 l23 c23 k23 fun _ _ _ _ _ _ us hl => match us, hl with | [_], _ => rfl
  have D_is_course : DefAt K mg "is_course" s_is_course ["thing"] := def_at X G a24 l24 c24 k24 fun _ _ _ _ _ _ us hl => match us, hl with | [_], _ => rfl
  have D_are_courses : DefAt K mg "are_courses" s_are_courses ["thing"] := def_at X G a25 l25 c25 k25 fun _ _ _ _ _ _ us hl => match us, hl with | [_], _ => rfl
  have D_need_order : DefAt K mg "need_order" s_need_order ["course", "places"] := def_at X G a26 l26 c26 k26 fun _ _ _ _ _ _ us hl => match us, hl with | [_, _], _ => rfl
  have D_spans_share : DefAt K mg "spans_share" s_spans_share ["place", "other"] := def_at X G a27 l27 c27 k27 fun _ _ _ _ _ _ us hl => match us, hl with | [_, _], _ => rfl
  obtain ⟨fd_Wall_init, Fu_Wall_init, bn_Wall_init⟩ := fun_at (x := "__init__") (qual := "Wall.__init__") (st := s_Wall_init) (ps := ["self", "courses"]) l28 c28 k28 fun _ _ _ _ _ _ us hl => match us, hl with | [_, _], _ => rfl
  have D_Wall_init : DefK K mg "Wall" (ca "Wall") "Wall.__init__" s_Wall_init ["self", "courses"] := ⟨_, fd_Wall_init, Fu_Wall_init, ⟨kM_Wall, a28, i28, kK_Wall⟩, PySem.W.mg_of X G kA_Wall, bn_Wall_init⟩
  obtain ⟨fd_Wall_marks, Fu_Wall_marks, bn_Wall_marks⟩ := fun_at (x := "marks") (qual := "Wall.marks") (st := s_Wall_marks) (ps := ["self"]) l29 c29 k29 fun _ _ _ _ _ _ us hl => match us, hl with | [_], _ => rfl
  have D_Wall_marks : DefM K (ca "Wall") "marks" "Wall.marks" s_Wall_marks ["self"] := ⟨_, fd_Wall_marks, Fu_Wall_marks, ⟨a29, i29, k29⟩, bn_Wall_marks⟩
  obtain ⟨fd_Wall_courses, Fu_Wall_courses, bn_Wall_courses⟩ := fun_at (x := "courses") (qual := "Wall.courses") (st := s_Wall_courses) (ps := ["self"]) l30 c30 k30 fun _ _ _ _ _ _ us hl => match us, hl with | [_], _ => rfl
  have D_Wall_courses : DefM K (ca "Wall") "courses" "Wall.courses" s_Wall_courses ["self"] := ⟨_, fd_Wall_courses, Fu_Wall_courses, ⟨a30, i30, k30⟩, bn_Wall_courses⟩
  obtain ⟨fd_Wall_places_in, Fu_Wall_places_in, bn_Wall_places_in⟩ := fun_at (x := "places_in") (qual := "Wall.places_in") (st := s_Wall_places_in) (ps := ["self", "course"]) l31 c31 k31 fun _ _ _ _ _ _ us hl => match us, hl with | [_, _], _ => rfl
  have D_Wall_places_in : DefM K (ca "Wall") "places_in" "Wall.places_in" s_Wall_places_in ["self", "course"] := ⟨_, fd_Wall_places_in, Fu_Wall_places_in, ⟨a31, i31, k31⟩, bn_Wall_places_in⟩
  obtain ⟨fd_Wall_place_kept, Fu_Wall_place_kept, bn_Wall_place_kept⟩ := fun_at (x := "place_kept") (qual := "Wall.place_kept") (st := s_Wall_place_kept) (ps := ["self", "mark"]) l32 c32 k32 fun _ _ _ _ _ _ us hl => match us, hl with | [_, _], _ => rfl
  have D_Wall_place_kept : DefM K (ca "Wall") "place_kept" "Wall.place_kept" s_Wall_place_kept ["self", "mark"] := ⟨_, fd_Wall_place_kept, Fu_Wall_place_kept, ⟨a32, i32, k32⟩, bn_Wall_place_kept⟩
  obtain ⟨fd_Wall_need, Fu_Wall_need, bn_Wall_need⟩ := fun_at (x := "need") (qual := "Wall.need") (st := s_Wall_need) (ps := ["self", "mark"]) l33 c33 k33 fun _ _ _ _ _ _ us hl => match us, hl with | [_, _], _ => rfl
  have D_Wall_need : DefM K (ca "Wall") "need" "Wall.need" s_Wall_need ["self", "mark"] := ⟨_, fd_Wall_need, Fu_Wall_need, ⟨a33, i33, k33⟩, bn_Wall_need⟩
  obtain ⟨fd_Wall_sharing, Fu_Wall_sharing, bn_Wall_sharing⟩ := fun_at (x := "sharing") (qual := "Wall.sharing") (st := s_Wall_sharing) (ps := ["self", "mark", "course"]) l34 c34 k34 fun _ _ _ _ _ _ us hl => match us, hl with | [_, _, _], _ => rfl
  have D_Wall_sharing : DefM K (ca "Wall") "sharing" "Wall.sharing" s_Wall_sharing ["self", "mark", "course"] := ⟨_, fd_Wall_sharing, Fu_Wall_sharing, ⟨a34, i34, k34⟩, bn_Wall_sharing⟩
  obtain ⟨fd_Wall_beneath, Fu_Wall_beneath, bn_Wall_beneath⟩ := fun_at (x := "beneath") (qual := "Wall.beneath") (st := s_Wall_beneath) (ps := ["self", "mark"]) l35 c35 k35 fun _ _ _ _ _ _ us hl => match us, hl with | [_, _], _ => rfl
  have D_Wall_beneath : DefM K (ca "Wall") "beneath" "Wall.beneath" s_Wall_beneath ["self", "mark"] := ⟨_, fd_Wall_beneath, Fu_Wall_beneath, ⟨a35, i35, k35⟩, bn_Wall_beneath⟩
  obtain ⟨fd_Wall_upon, Fu_Wall_upon, bn_Wall_upon⟩ := fun_at (x := "upon") (qual := "Wall.upon") (st := s_Wall_upon) (ps := ["self", "mark"]) l36 c36 k36 fun _ _ _ _ _ _ us hl => match us, hl with | [_, _], _ => rfl
  have D_Wall_upon : DefM K (ca "Wall") "upon" "Wall.upon" s_Wall_upon ["self", "mark"] := ⟨_, fd_Wall_upon, Fu_Wall_upon, ⟨a36, i36, k36⟩, bn_Wall_upon⟩
  have D_whole_in : DefAt K mg "whole_in" s_whole_in ["word"] := def_at X G a37 l37 c37 k37 fun _ _ _ _ _ _ us hl => match us, hl with | [_], _ => rfl
  have D_show_joints : DefAt K mg "show_joints" s_show_joints ["joints"] := def_at X G a38 l38 c38 k38 fun _ _ _ _ _ _ us hl => match us, hl with | [_], _ => rfl
  have D_show_plan : DefAt K mg "show_plan" s_show_plan ["bench", "wall", "bears"] := def_at X G a39 l39 c39 k39 fun _ _ _ _ _ _ us hl => match us, hl with | [_, _, _], _ => rfl
  have D_joints_in : DefAt K mg "joints_in" s_joints_in ["word"] := def_at X G a40 l40 c40 k40 fun _ _ _ _ _ _ us hl => match us, hl with | [_], _ => rfl
  have D_bed_in : DefAt K mg "bed_in" s_bed_in ["words"] := def_at X G a41 l41 c41 k41 fun _ _ _ _ _ _ us hl => match us, hl with | [_], _ => rfl
  have D_place_in : DefAt K mg "place_in" s_place_in ["words"] := def_at X G a42 l42 c42 k42 fun _ _ _ _ _ _ us hl => match us, hl with | [_], _ => rfl
  have D_head_taken : DefAt K mg "head_taken" s_head_taken ["plan", "words"] := def_at X G a43 l43 c43 k43 fun _ _ _ _ _ _ us hl => match us, hl with | [_, _], _ => rfl
  have D_row_taken : DefAt K mg "row_taken" s_row_taken ["plan", "words"] := def_at X G a44 l44 c44 k44 fun _ _ _ _ _ _ us hl => match us, hl with | [_, _], _ => rfl
  have D_read_plan : DefAt K mg "read_plan" s_read_plan ["text"] := def_at X G a45 l45 c45 k45 fun _ _ _ _ _ _ us hl => match us, hl with | [_], _ => rfl
  have D_bag : DefAt K mg "_law_bag" s_bag ["_law_script"] := def_at X G a46 l46 c46 k46 fun _ _ _ _ _ _ us hl => match us, hl with | [_], _ => rfl
  have D_take : DefAt K mg "_law_take" s_take ["_law_bag_here", "_law_many"] := def_at X G a47 l47 c47 k47 fun _ _ _ _ _ _ us hl => match us, hl with | [_, _], _ => rfl
  have D_alike : DefAt K mg "_law_alike" s_alike ["_law_found", "_law_due"] := def_at X G a48 l48 c48 k48 fun _ _ _ _ _ _ us hl => match us, hl with | [_, _], _ => rfl
  have D_grains : DefAt K mg "_law_grains" s_grains ["_law_bag_here"] := def_at X G a49 l49 c49 k49 fun _ _ _ _ _ _ us hl => match us, hl with | [_], _ => rfl
  have D_rising : DefAt K mg "_law_rising" s_rising ["_law_bag_here", "_law_count", "_law_end"] := def_at X G a50 l50 c50 k50 fun _ _ _ _ _ _ us hl => match us, hl with | [_, _, _], _ => rfl
  have D_measure : DefAt K mg "_law_measure" s_measure ["_law_bag_here"] := def_at X G a51 l51 c51 k51 fun _ _ _ _ _ _ us hl => match us, hl with | [_], _ => rfl
  have D_bed : DefAt K mg "_law_bed" s_bed ["_law_bag_here", "_law_grains_here", "_law_height", "_law_cap", "_law_length", "_law_width"] := def_at X G a52 l52 c52 k52 fun _ _ _ _ _ _ us hl => match us, hl with | [_, _, _, _, _, _], _ => rfl
  have D_bench : DefAt K mg "_law_bench" s_bench ["_law_bag_here"] := def_at X G a53 l53 c53 k53 fun _ _ _ _ _ _ us hl => match us, hl with | [_], _ => rfl
  have D_wide : DefAt K mg "_law_wide" s_wide ["_law_bag_here"] := def_at X G a54 l54 c54 k54 fun _ _ _ _ _ _ us hl => match us, hl with | [_], _ => rfl
  have D_place : DefAt K mg "_law_place" s_place ["_law_bag_here", "_law_grains_here", "_law_at", "_law_behind"] := def_at X G a55 l55 c55 k55 fun _ _ _ _ _ _ us hl => match us, hl with | [_, _, _, _], _ => rfl
  have D_row : DefAt K mg "_law_row" s_row ["_law_bag_here", "_law_grains_here", "_law_count", "_law_edges_here"] := def_at X G a56 l56 c56 k56 fun _ _ _ _ _ _ us hl => match us, hl with | [_, _, _, _], _ => rfl
  have D_share : DefAt K mg "_law_share" s_share ["_law_one", "_law_other"] := def_at X G a57 l57 c57 k57 fun _ _ _ _ _ _ us hl => match us, hl with | [_, _], _ => rfl
  have D_edges : DefAt K mg "_law_edges" s_edges ["_law_places"] := def_at X G a58 l58 c58 k58 fun _ _ _ _ _ _ us hl => match us, hl with | [_], _ => rfl
  have D_shut : DefAt K mg "_law_shut" s_shut ["_law_bag_here"] := def_at X G a59 l59 c59 k59 fun _ _ _ _ _ _ us hl => match us, hl with | [_], _ => rfl
  have D_joints_text : DefAt K mg "_law_joints_text" s_joints_text ["_law_joints"] := def_at X G a60 l60 c60 k60 fun _ _ _ _ _ _ us hl => match us, hl with | [_], _ => rfl
  have D_plan_rows : DefAt K mg "_law_plan_rows" s_plan_rows ["_law_length", "_law_width", "_law_beds", "_law_courses", "_law_bears"] := def_at X G a61 l61 c61 k61 fun _ _ _ _ _ _ us hl => match us, hl with | [_, _, _, _, _], _ => rfl
  have D_bench_told : DefAt K mg "_law_bench_told" s_bench_told ["_law_bench_here"] := def_at X G a62 l62 c62 k62 fun _ _ _ _ _ _ us hl => match us, hl with | [_], _ => rfl
  have D_shut_told : DefAt K mg "_law_shut_told" s_shut_told ["_law_shut_here"] := def_at X G a63 l63 c63 k63 fun _ _ _ _ _ _ us hl => match us, hl with | [_], _ => rfl
  have D_read_right : DefAt K mg "_law_read_right" s_read_right ["_law_text", "_law_bench_here", "_law_shut_here", "_law_bears"] := def_at X G a64 l64 c64 k64 fun _ _ _ _ _ _ us hl => match us, hl with | [_, _, _, _], _ => rfl
  have D_law : DefAt K mg "law" s_law ["_law_script"] := def_at X G a65 l65 c65 k65 fun _ _ _ _ _ _ us hl => match us, hl with | [_], _ => rfl
  have m_ : ∀ x : Str, x ∈ (["NoBed", "NoMark", "NoPiece", "NoPlace", "NoPlan", "StoneError", "TooMany", "Unborne", "Wrong"] : List Str) → mg x = some (.ref (ca x)) := (all_in (PySem.W.mg_of X G u_NoBed) (all_in (PySem.W.mg_of X G u_NoMark) (all_in (PySem.W.mg_of X G u_NoPiece) (all_in (PySem.W.mg_of X G u_NoPlace) (all_in (PySem.W.mg_of X G u_NoPlan) (all_in (PySem.W.mg_of X G u_StoneError) (all_in (PySem.W.mg_of X G u_TooMany) (all_in (PySem.W.mg_of X G u_Unborne) (all_in (PySem.W.mg_of X G u_Wrong) no_in)))))))))
  have T : Xt K mg ca nsL tsL csL fsL isaL := {
    mg := fun x hx => m_ x (by simp [tsL, csL] at hx ⊢; grind)
    exc := (all_in ⟨x_NoBed_c, x_NoBed_d, x_NoBed_4, x_NoBed_e, x_NoBed_f, b8, b9, x_NoBed_g⟩ (all_in ⟨x_NoMark_c, x_NoMark_d, x_NoMark_4, x_NoMark_e, x_NoMark_f, b8, b9, x_NoMark_g⟩ (all_in ⟨x_NoPiece_c, x_NoPiece_d, x_NoPiece_4, x_NoPiece_e, x_NoPiece_f, b8, b9, x_NoPiece_g⟩ (all_in ⟨x_NoPlace_c, x_NoPlace_d, x_NoPlace_4, x_NoPlace_e, x_NoPlace_f, b8, b9, x_NoPlace_g⟩ (all_in ⟨x_NoPlan_c, x_NoPlan_d, x_NoPlan_4, x_NoPlan_e, x_NoPlan_f, b8, b9, x_NoPlan_g⟩ (all_in ⟨x_TooMany_c, x_TooMany_d, x_TooMany_4, x_TooMany_e, x_TooMany_f, b8, b9, x_TooMany_g⟩ (all_in ⟨x_Unborne_c, x_Unborne_d, x_Unborne_4, x_Unborne_e, x_Unborne_f, b8, b9, x_Unborne_g⟩ (all_in ⟨x_Wrong_c, x_Wrong_d, x_Wrong_4, x_Wrong_e, x_Wrong_f, b8, b9, x_Wrong_g⟩ no_in))))))))
    kit := (all_in no_in (all_in no_in (all_in no_in (all_in no_in (all_in no_in (all_in no_in (all_in no_in (all_in no_in no_in))))))))
    kitV := (all_in (kit_val x_NoBed_h) (all_in (kit_val x_NoMark_h) (all_in (kit_val x_NoPiece_h) (all_in (kit_val x_NoPlace_h) (all_in (kit_val x_NoPlan_h) (all_in (kit_val x_TooMany_h) (all_in (kit_val x_Unborne_h) (all_in (kit_val x_Wrong_h) no_in))))))))
    exm := (all_in (all_in (by rw [PySem.W.exm_ref v_StoneError_1 v_StoneError_2 v_StoneError_3 c_NoBed_StoneError]; decide) no_in) (all_in (all_in (by rw [PySem.W.exm_ref v_StoneError_1 v_StoneError_2 v_StoneError_3 c_NoMark_StoneError]; decide) no_in) (all_in (all_in (by rw [PySem.W.exm_ref v_StoneError_1 v_StoneError_2 v_StoneError_3 c_NoPiece_StoneError]; decide) no_in) (all_in (all_in (by rw [PySem.W.exm_ref v_StoneError_1 v_StoneError_2 v_StoneError_3 c_NoPlace_StoneError]; decide) no_in) (all_in (all_in (by rw [PySem.W.exm_ref v_StoneError_1 v_StoneError_2 v_StoneError_3 c_NoPlan_StoneError]; decide) no_in) (all_in (all_in (by rw [PySem.W.exm_ref v_StoneError_1 v_StoneError_2 v_StoneError_3 c_TooMany_StoneError]; decide) no_in) (all_in (all_in (by rw [PySem.W.exm_ref v_StoneError_1 v_StoneError_2 v_StoneError_3 c_Unborne_StoneError]; decide) no_in) (all_in (all_in (by rw [PySem.W.exm_ref v_StoneError_1 v_StoneError_2 v_StoneError_3 c_Wrong_StoneError]; decide) no_in) no_in))))))))
    no := (all_in (all_in f_NoBed_at (all_in f_NoBed_mark (all_in f_NoBed_most (all_in f_NoBed_piece no_in)))) (all_in (all_in f_NoMark_at (all_in f_NoMark_mark (all_in f_NoMark_most (all_in f_NoMark_piece no_in)))) (all_in (all_in f_NoPiece_at (all_in f_NoPiece_mark (all_in f_NoPiece_most (all_in f_NoPiece_piece no_in)))) (all_in (all_in f_NoPlace_at (all_in f_NoPlace_mark (all_in f_NoPlace_most (all_in f_NoPlace_piece no_in)))) (all_in (all_in f_NoPlan_at (all_in f_NoPlan_mark (all_in f_NoPlan_most (all_in f_NoPlan_piece no_in)))) (all_in (all_in f_TooMany_at (all_in f_TooMany_mark (all_in f_TooMany_most (all_in f_TooMany_piece no_in)))) (all_in (all_in f_Unborne_at (all_in f_Unborne_mark (all_in f_Unborne_most (all_in f_Unborne_piece no_in)))) (all_in (all_in f_Wrong_at (all_in f_Wrong_mark (all_in f_Wrong_most (all_in f_Wrong_piece no_in)))) no_in)))))))) }
  have Bc : BaseC K mg "StoneError" := ⟨ca "StoneError", PySem.W.mg_of X G u_StoneError, b5, b6, b7⟩
  obtain ⟨fd_NoBed, Fu_NoBed, bn_NoBed⟩ := fun_at (x := "__init__") (qual := "NoBed.__init__") (st := s_ini_NoBed) (ps := ["self", "at"]) x_NoBed_9 x_NoBed_a x_NoBed_b fun _ _ _ _ _ _ us hl => match us, hl with | [_, _], _ => rfl
  have R_NoBed : BareG1 P w K mg base 1 "NoBed" (ca "NoBed") "at" ["self", "at"] := ⟨PySem.W.mg_of X G u_NoBed, f_NoBed_at, I_NoBed, fd_NoBed, ⟨⟨nm_NoBed, q_NoBed, N_NoBed, bs_NoBed, bm_NoBed, sn_NoBed, sub_NoBed, ab_NoBed, col_NoBed, dd_NoBed, k0_NoBed, k1_NoBed, k2_NoBed, k3_NoBed, k5_NoBed, x_NoBed_1, x_NoBed_2⟩, x_NoBed_3, x_NoBed_4, x_NoBed_5, x_NoBed_6⟩, x_NoBed_7, x_NoBed_8, ini_NoBed Fu_NoBed Bc, bn_NoBed⟩
  obtain ⟨fd_NoMark, Fu_NoMark, bn_NoMark⟩ := fun_at (x := "__init__") (qual := "NoMark.__init__") (st := s_ini_NoMark) (ps := ["self", "mark"]) x_NoMark_9 x_NoMark_a x_NoMark_b fun _ _ _ _ _ _ us hl => match us, hl with | [_, _], _ => rfl
  have R_NoMark : BareG1 P w K mg base 1 "NoMark" (ca "NoMark") "mark" ["self", "mark"] := ⟨PySem.W.mg_of X G u_NoMark, f_NoMark_mark, I_NoMark, fd_NoMark, ⟨⟨nm_NoMark, q_NoMark, N_NoMark, bs_NoMark, bm_NoMark, sn_NoMark, sub_NoMark, ab_NoMark, col_NoMark, dd_NoMark, k0_NoMark, k1_NoMark, k2_NoMark, k3_NoMark, k5_NoMark, x_NoMark_1, x_NoMark_2⟩, x_NoMark_3, x_NoMark_4, x_NoMark_5, x_NoMark_6⟩, x_NoMark_7, x_NoMark_8, ini_NoMark Fu_NoMark Bc, bn_NoMark⟩
  obtain ⟨fd_NoPiece, Fu_NoPiece, bn_NoPiece⟩ := fun_at (x := "__init__") (qual := "NoPiece.__init__") (st := s_ini_NoPiece) (ps := ["self", "piece"]) x_NoPiece_9 x_NoPiece_a x_NoPiece_b fun _ _ _ _ _ _ us hl => match us, hl with | [_, _], _ => rfl
  have R_NoPiece : BareG1 P w K mg base 1 "NoPiece" (ca "NoPiece") "piece" ["self", "piece"] := ⟨PySem.W.mg_of X G u_NoPiece, f_NoPiece_piece, I_NoPiece, fd_NoPiece, ⟨⟨nm_NoPiece, q_NoPiece, N_NoPiece, bs_NoPiece, bm_NoPiece, sn_NoPiece, sub_NoPiece, ab_NoPiece, col_NoPiece, dd_NoPiece, k0_NoPiece, k1_NoPiece, k2_NoPiece, k3_NoPiece, k5_NoPiece, x_NoPiece_1, x_NoPiece_2⟩, x_NoPiece_3, x_NoPiece_4, x_NoPiece_5, x_NoPiece_6⟩, x_NoPiece_7, x_NoPiece_8, ini_NoPiece Fu_NoPiece Bc, bn_NoPiece⟩
  obtain ⟨fd_NoPlace, Fu_NoPlace, bn_NoPlace⟩ := fun_at (x := "__init__") (qual := "NoPlace.__init__") (st := s_ini_NoPlace) (ps := ["self", "mark"]) x_NoPlace_9 x_NoPlace_a x_NoPlace_b fun _ _ _ _ _ _ us hl => match us, hl with | [_, _], _ => rfl
  have R_NoPlace : BareG1 P w K mg base 1 "NoPlace" (ca "NoPlace") "mark" ["self", "mark"] := ⟨PySem.W.mg_of X G u_NoPlace, f_NoPlace_mark, I_NoPlace, fd_NoPlace, ⟨⟨nm_NoPlace, q_NoPlace, N_NoPlace, bs_NoPlace, bm_NoPlace, sn_NoPlace, sub_NoPlace, ab_NoPlace, col_NoPlace, dd_NoPlace, k0_NoPlace, k1_NoPlace, k2_NoPlace, k3_NoPlace, k5_NoPlace, x_NoPlace_1, x_NoPlace_2⟩, x_NoPlace_3, x_NoPlace_4, x_NoPlace_5, x_NoPlace_6⟩, x_NoPlace_7, x_NoPlace_8, ini_NoPlace Fu_NoPlace Bc, bn_NoPlace⟩
  obtain ⟨fd_NoPlan, Fu_NoPlan, bn_NoPlan⟩ := fun_at (x := "__init__") (qual := "NoPlan.__init__") (st := s_ini_NoPlan) (ps := ["self", "at"]) x_NoPlan_9 x_NoPlan_a x_NoPlan_b fun _ _ _ _ _ _ us hl => match us, hl with | [_, _], _ => rfl
  have R_NoPlan : BareG1 P w K mg base 1 "NoPlan" (ca "NoPlan") "at" ["self", "at"] := ⟨PySem.W.mg_of X G u_NoPlan, f_NoPlan_at, I_NoPlan, fd_NoPlan, ⟨⟨nm_NoPlan, q_NoPlan, N_NoPlan, bs_NoPlan, bm_NoPlan, sn_NoPlan, sub_NoPlan, ab_NoPlan, col_NoPlan, dd_NoPlan, k0_NoPlan, k1_NoPlan, k2_NoPlan, k3_NoPlan, k5_NoPlan, x_NoPlan_1, x_NoPlan_2⟩, x_NoPlan_3, x_NoPlan_4, x_NoPlan_5, x_NoPlan_6⟩, x_NoPlan_7, x_NoPlan_8, ini_NoPlan Fu_NoPlan Bc, bn_NoPlan⟩
  obtain ⟨fd_TooMany, Fu_TooMany, bn_TooMany⟩ := fun_at (x := "__init__") (qual := "TooMany.__init__") (st := s_ini_TooMany) (ps := ["self", "most"]) x_TooMany_9 x_TooMany_a x_TooMany_b fun _ _ _ _ _ _ us hl => match us, hl with | [_, _], _ => rfl
  have R_TooMany : BareG1 P w K mg base 1 "TooMany" (ca "TooMany") "most" ["self", "most"] := ⟨PySem.W.mg_of X G u_TooMany, f_TooMany_most, I_TooMany, fd_TooMany, ⟨⟨nm_TooMany, q_TooMany, N_TooMany, bs_TooMany, bm_TooMany, sn_TooMany, sub_TooMany, ab_TooMany, col_TooMany, dd_TooMany, k0_TooMany, k1_TooMany, k2_TooMany, k3_TooMany, k5_TooMany, x_TooMany_1, x_TooMany_2⟩, x_TooMany_3, x_TooMany_4, x_TooMany_5, x_TooMany_6⟩, x_TooMany_7, x_TooMany_8, ini_TooMany Fu_TooMany Bc, bn_TooMany⟩
  obtain ⟨fd_Unborne, Fu_Unborne, bn_Unborne⟩ := fun_at (x := "__init__") (qual := "Unborne.__init__") (st := s_ini_Unborne) (ps := ["self", "mark"]) x_Unborne_9 x_Unborne_a x_Unborne_b fun _ _ _ _ _ _ us hl => match us, hl with | [_, _], _ => rfl
  have R_Unborne : BareG1 P w K mg base 1 "Unborne" (ca "Unborne") "mark" ["self", "mark"] := ⟨PySem.W.mg_of X G u_Unborne, f_Unborne_mark, I_Unborne, fd_Unborne, ⟨⟨nm_Unborne, q_Unborne, N_Unborne, bs_Unborne, bm_Unborne, sn_Unborne, sub_Unborne, ab_Unborne, col_Unborne, dd_Unborne, k0_Unborne, k1_Unborne, k2_Unborne, k3_Unborne, k5_Unborne, x_Unborne_1, x_Unborne_2⟩, x_Unborne_3, x_Unborne_4, x_Unborne_5, x_Unborne_6⟩, x_Unborne_7, x_Unborne_8, ini_Unborne Fu_Unborne Bc, bn_Unborne⟩
  obtain ⟨fd_Wrong, Fu_Wrong, bn_Wrong⟩ := fun_at (x := "__init__") (qual := "Wrong.__init__") (st := s_ini_Wrong) (ps := ["self", "at"]) x_Wrong_9 x_Wrong_a x_Wrong_b fun _ _ _ _ _ _ us hl => match us, hl with | [_, _], _ => rfl
  have R_Wrong : BareG1 P w K mg base 1 "Wrong" (ca "Wrong") "at" ["self", "at"] := ⟨PySem.W.mg_of X G u_Wrong, f_Wrong_at, I_Wrong, fd_Wrong, ⟨⟨nm_Wrong, q_Wrong, N_Wrong, bs_Wrong, bm_Wrong, sn_Wrong, sub_Wrong, ab_Wrong, col_Wrong, dd_Wrong, k0_Wrong, k1_Wrong, k2_Wrong, k3_Wrong, k5_Wrong, x_Wrong_1, x_Wrong_2⟩, x_Wrong_3, x_Wrong_4, x_Wrong_5, x_Wrong_6⟩, x_Wrong_7, x_Wrong_8, ini_Wrong Fu_Wrong Bc, bn_Wrong⟩
  have C_bag : Callee P w K mg base 1 "_law_bag" ["_law_script"] [] bagS := ok_bag D_bag B
  have C_take : Callee P w K mg base 1 "_law_take" ["_law_bag_here", "_law_many"] [0] takeX := ok_take D_take B
  have C_grains : Callee P w K mg base 2 "_law_grains" ["_law_bag_here"] [0] grainsS := ok_grains D_grains B C_take
  have C_measure : Callee P w K mg base 2 "_law_measure" ["_law_bag_here"] [0] measS := ok_measure D_measure C_take
  have C_rising : Callee P w K mg base 2 "_law_rising" ["_law_bag_here", "_law_count", "_law_end"] [0] risingS := ok_rising D_rising B C_take
  have C_bed : Callee P w K mg base 3 "_law_bed" ["_law_bag_here", "_law_grains_here", "_law_height", "_law_cap", "_law_length", "_law_width"] [0] lbedS := ok_bed D_bed B C_take C_rising
  have C_bench : Callee P w K mg base 4 "_law_bench" ["_law_bag_here"] [0] lbenchS := ok_bench D_bench B C_grains C_measure C_take C_bed
  have C_wide : Callee P w K mg base 2 "_law_wide" ["_law_bag_here"] [0] wideS := ok_wide D_wide C_take
  have C_place : Callee P w K mg base 3 "_law_place" ["_law_bag_here", "_law_grains_here", "_law_at", "_law_behind"] [0] lplaceS := ok_place D_place B C_take C_wide
  have C_row : Callee P w K mg base 4 "_law_row" ["_law_bag_here", "_law_grains_here", "_law_count", "_law_edges_here"] [0] lrowS := ok_row D_row B C_take C_place
  have C_edges : Callee P w K mg base 1 "_law_edges" ["_law_places"] [] edgesS := ok_edges D_edges
  have C_share : Callee P w K mg base 1 "_law_share" ["_law_one", "_law_other"] [] lshareS := ok_share D_share B
  have C_shut : Callee P w K mg base 5 "_law_shut" ["_law_bag_here"] [0] shutS := ok_shut D_shut B C_grains C_take C_row C_edges C_wide C_share
  have C_is_whole : Callee P w K mg base 1 "is_whole" ["thing"] [] wholeS := ok_is_whole D_is_whole B
  have C_is_between : Callee P w K mg base 2 "is_between" ["thing", "least", "most"] [] betweenS := ok_is_between D_is_between C_is_whole
  have C_is_measure : Callee P w K mg base 3 "is_measure" ["thing"] [] measureS := ok_is_measure D_is_measure B C_is_between
  have C_is_spot : Callee P w K mg base 3 "is_spot" ["thing"] [] spotS := ok_is_spot D_is_spot B C_is_between
  have C_are_joints : Callee P w K mg base 4 "are_joints" ["thing"] [] jointsX := ok_are_joints D_are_joints B C_is_spot
  have C_is_grain : Callee P w K mg base 1 "is_grain" ["thing"] [] grainX := ok_is_grain D_is_grain B
  have C_is_bed : Callee P w K mg base 5 "is_bed" ["thing"] [] bedX := ok_is_bed D_is_bed B C_are_joints C_is_measure C_is_grain C_is_whole
  have C_are_beds : Callee P w K mg base 6 "are_beds" ["thing"] [] bedsX := ok_are_beds D_are_beds B C_is_bed
  have C_like_bed : Callee P w K mg base 1 "like_bed" ["bed"] [] likeS := ok_like_bed D_like_bed B
  have C_stretches_of : Callee P w K mg base 1 "stretches_of" ["joints", "end"] [] stretchS := ok_stretches_of D_stretches_of B
  have C_pieces_of : Callee P w K mg base 2 "pieces_of" ["length", "width", "bed", "z"] [] piecesS := ok_pieces_of D_pieces_of C_stretches_of
  have C_joints_stand : Callee P w K mg base 1 "joints_stand" ["joints", "end"] [] standX := ok_joints_stand D_joints_stand
  have C_Bench_init : CalleeK P w K mg base 7 "Bench" (ca "Bench") ["self", "length", "width", "beds"] (initXB ca) := ok_Bench_init D_Bench_init B KC_Bench KN_Bench R_NoBed R_TooMany R_Wrong C_is_measure C_are_beds C_like_bed C_pieces_of C_joints_stand
  have C_Wall_marks : CalleeM P w K mg base 1 (ca "Wall") "marks" ["self"] [] (marksW ca) := ok_Wall_marks D_Wall_marks B KC_Wall KN_Wall
  have C_is_lie : Callee P w K mg base 1 "is_lie" ["thing"] [] lieX := ok_is_lie D_is_lie B G_LIES
  have C_is_place : Callee P w K mg base 4 "is_place" ["thing"] [] placeX := ok_is_place D_is_place B C_is_lie C_is_spot C_is_measure C_is_grain
  have C_is_course : Callee P w K mg base 5 "is_course" ["thing"] [] courseX := ok_is_course D_is_course B C_is_measure C_is_place
  have C_are_courses : Callee P w K mg base 6 "are_courses" ["thing"] [] coursesX := ok_are_courses D_are_courses B C_is_course
  have C_need_order : Callee P w K mg base 3 "need_order" ["course", "places"] [] (orderX ca) := ok_need_order D_need_order B R_NoPlace
  have C_Wall_places_in : CalleeM P w K mg base 1 (ca "Wall") "places_in" ["self", "course"] [] (placesW ca) := ok_Wall_places_in D_Wall_places_in B KC_Wall KN_Wall
  have C_are_between : Callee P w K mg base 3 "are_between" ["things", "least", "most"] [] areS := ok_are_between D_are_between C_is_between
  have C_is_mark : Callee P w K mg base 4 "is_mark" ["thing"] [] markX := ok_is_mark D_is_mark B C_are_between
  have C_Wall_place_kept : CalleeM P w K mg base 5 (ca "Wall") "place_kept" ["self", "mark"] [] (keptX ca) := ok_Wall_place_kept D_Wall_place_kept B KC_Wall KN_Wall R_NoMark R_Wrong C_Wall_places_in C_is_mark
  have C_spans_share : Callee P w K mg base 1 "spans_share" ["place", "other"] [] shareS := ok_spans_share D_spans_share
  have C_Wall_sharing : CalleeM P w K mg base 6 (ca "Wall") "sharing" ["self", "mark", "course"] [] (sharingX ca) := ok_Wall_sharing D_Wall_sharing B KC_Wall KN_Wall C_Wall_place_kept C_spans_share C_Wall_places_in
  have C_Wall_beneath : CalleeM P w K mg base 7 (ca "Wall") "beneath" ["self", "mark"] [] (beneathX ca) := ok_Wall_beneath D_Wall_beneath KC_Wall KN_Wall C_Wall_place_kept C_Wall_sharing
  have C_Wall_init : CalleeK P w K mg base 8 "Wall" (ca "Wall") ["self", "courses"] (initX ca) := ok_Wall_init D_Wall_init B KC_Wall KN_Wall R_TooMany R_Unborne R_Wrong C_Wall_marks C_are_courses C_need_order C_Wall_beneath
  have C_whole_in : Callee P w K mg base 1 "whole_in" ["word"] [] wholeInS := ok_whole_in D_whole_in B
  have C_place_in : Callee P w K mg base 4 "place_in" ["words"] [] plInS := ok_place_in D_place_in B C_whole_in C_is_grain C_is_spot C_is_measure C_is_lie
  have C_head_taken : Callee P w K mg base 4 "head_taken" ["plan", "words"] [0] headS := ok_head_taken D_head_taken B C_whole_in C_is_measure
  have C_joints_in : Callee P w K mg base 4 "joints_in" ["word"] [] jntS := ok_joints_in D_joints_in B C_whole_in C_is_spot
  have C_bed_in : Callee P w K mg base 5 "bed_in" ["words"] [] bdInS := ok_bed_in D_bed_in B C_whole_in C_joints_in C_is_measure C_is_grain
  have C_row_taken : Callee P w K mg base 6 "row_taken" ["plan", "words"] [0] rowTS := ok_row_taken D_row_taken B C_place_in C_head_taken C_bed_in C_whole_in C_is_measure
  have C_read_plan : Callee P w K mg base 10 "read_plan" ["text"] [] (readPS ca) := ok_read_plan D_read_plan B R_NoPlan R_Wrong C_Bench_init C_Wall_init C_row_taken
  have C_alike : Callee P w K mg base 1 "_law_alike" ["_law_found", "_law_due"] [] alikeS := ok_alike D_alike B
  have C_Bench_size : CalleeM P w K mg base 1 (ca "Bench") "size" ["self"] [] (sizeS ca) := ok_Bench_size D_Bench_size KC_Bench KN_Bench
  have C_Bench_beds : CalleeM P w K mg base 2 (ca "Bench") "beds" ["self"] [] (bedsS ca) := ok_Bench_beds D_Bench_beds KC_Bench KN_Bench C_like_bed
  have C_Wall_courses : CalleeM P w K mg base 1 (ca "Wall") "courses" ["self"] [] (coursesW ca) := ok_Wall_courses D_Wall_courses B KC_Wall KN_Wall
  have C_show_joints : Callee P w K mg base 1 "show_joints" ["joints"] [] shjS := ok_show_joints D_show_joints B
  have C_show_plan : Callee P w K mg base 3 "show_plan" ["bench", "wall", "bears"] [] (shpS ca) := ok_show_plan D_show_plan B KC_Bench KN_Bench KC_Wall KN_Wall C_Bench_size C_Bench_beds C_Wall_courses C_show_joints
  have C_Bench_many : CalleeM P w K mg base 1 (ca "Bench") "many" ["self"] [] (manyS ca) := ok_Bench_many D_Bench_many B KC_Bench KN_Bench
  have C_Bench_piece_kept : CalleeM P w K mg base 3 (ca "Bench") "piece_kept" ["self", "piece"] [] (keptXB ca) := ok_Bench_piece_kept D_Bench_piece_kept B KC_Bench KN_Bench R_NoPiece R_Wrong C_is_whole
  have C_Bench_box : CalleeM P w K mg base 4 (ca "Bench") "box" ["self", "piece"] [] (bboxX ca) := ok_Bench_box D_Bench_box KC_Bench KN_Bench C_Bench_piece_kept
  have C_Bench_grain : CalleeM P w K mg base 4 (ca "Bench") "grain" ["self", "piece"] [] (grnX ca) := ok_Bench_grain D_Bench_grain KC_Bench KN_Bench C_Bench_piece_kept
  have C_Bench_heavy : CalleeM P w K mg base 4 (ca "Bench") "heavy" ["self", "piece"] [] (hvyX ca) := ok_Bench_heavy D_Bench_heavy KC_Bench KN_Bench C_Bench_piece_kept
  have C_bench_told : Callee P w K mg base 5 "_law_bench_told" ["_law_bench_here"] [] (btoldS ca) := ok_bench_told D_bench_told B KC_Bench KN_Bench C_Bench_size C_Bench_beds C_Bench_many C_Bench_box C_Bench_grain C_Bench_heavy
  have C_Wall_need : CalleeM P w K mg base 6 (ca "Wall") "need" ["self", "mark"] [] (needX ca) := ok_Wall_need D_Wall_need KC_Wall KN_Wall C_Wall_place_kept
  have C_Wall_upon : CalleeM P w K mg base 7 (ca "Wall") "upon" ["self", "mark"] [] (uponX ca) := ok_Wall_upon D_Wall_upon KC_Wall KN_Wall C_Wall_place_kept C_Wall_sharing
  have C_shut_told : Callee P w K mg base 8 "_law_shut_told" ["_law_shut_here"] [] (wtoldS ca) := ok_shut_told D_shut_told KC_Wall KN_Wall C_Wall_courses C_Wall_marks C_Wall_need C_Wall_beneath C_Wall_upon
  have C_read_right : Callee P w K mg base 11 "_law_read_right" ["_law_text", "_law_bench_here", "_law_shut_here", "_law_bears"] [] (lreadS ca) := ok_read_right D_read_right B KI_Bench KI_Wall C_read_plan C_alike C_show_plan C_bench_told C_shut_told
  have C_joints_text : Callee P w K mg base 1 "_law_joints_text" ["_law_joints"] [] shjS := ok_joints_text D_joints_text B
  have C_plan_rows : Callee P w K mg base 2 "_law_plan_rows" ["_law_length", "_law_width", "_law_beds", "_law_courses", "_law_bears"] [] lrowsS := ok_plan_rows D_plan_rows B C_joints_text
  have C_law : Callee P w K mg base 12 "law" ["_law_script"] [] (lawS 63) := ok_law D_law B KC_Bench KN_Bench KC_Wall KN_Wall C_bag C_take C_bench C_shut C_Bench_init C_Wall_init C_read_right C_alike C_plan_rows C_show_plan C_Bench_beds C_Wall_courses
  exact C_law
end My
open PySem PySem.W PyProof.Rows
set_option maxHeartbeats 0 in
theorem PySem.Challenge.cw_bedstone_k93_plan_written_read_holds : PySem.Challenge.rw_bedstone_k93_plan_written_read.Holds := by
  w_on; o_law; k_head; (case hw => w_witness2)
  k_fill
  refine QV.walk_ofG (l := PySem.Challenge.rw_bedstone_k93_plan_written_read) (n := 63) (k := 12) (x := "_law_script") rfl (by decide) rfl ⟨rfl, by decide, by decide⟩ (fun w h Y => PySem.W.kIn_of Y) ?F
  case F =>
    intro w mg h KX G base
    refine' My.all_mk KX G base ?a0 ?l0 ?c0 ?k0 ?a1 ?l1 ?c1 ?k1 ?a2 ?l2 ?c2 ?k2 ?a3 ?l3 ?c3 ?k3 ?a4 ?l4 ?c4 ?k4 ?a5 ?l5 ?c5 ?k5 ?a6 ?l6 ?c6 ?k6 ?a7 ?l7 ?c7 ?k7 ?a8 ?l8 ?c8 ?k8 ?a9 ?l9 ?c9 ?k9 ?a10 ?l10 ?c10 ?k10 ?a11 ?l11 ?c11 ?k11 ?a12 ?l12 ?c12 ?k12 ?a13 ?l13 ?c13 ?k13 ?a14 ?l14 ?c14 ?k14 ?a15 ?i15 ?l15 ?c15 ?k15 ?a16 ?i16 ?l16 ?c16 ?k16 ?a17 ?i17 ?l17 ?c17 ?k17 ?a18 ?i18 ?l18 ?c18 ?k18 ?a19 ?i19 ?l19 ?c19 ?k19 ?a20 ?i20 ?l20 ?c20 ?k20 ?a21 ?i21 ?l21 ?c21 ?k21 ?a22 ?i22 ?l22 ?c22 ?k22 ?a23 ?l23 ?c23 ?k23 ?a24 ?l24 ?c24 ?k24 ?a25 ?l25 ?c25 ?k25 ?a26 ?l26 ?c26 ?k26 ?a27 ?l27 ?c27 ?k27 ?a28 ?i28 ?l28 ?c28 ?k28 ?a29 ?i29 ?l29 ?c29 ?k29 ?a30 ?i30 ?l30 ?c30 ?k30 ?a31 ?i31 ?l31 ?c31 ?k31 ?a32 ?i32 ?l32 ?c32 ?k32 ?a33 ?i33 ?l33 ?c33 ?k33 ?a34 ?i34 ?l34 ?c34 ?k34 ?a35 ?i35 ?l35 ?c35 ?k35 ?a36 ?i36 ?l36 ?c36 ?k36 ?a37 ?l37 ?c37 ?k37 ?a38 ?l38 ?c38 ?k38 ?a39 ?l39 ?c39 ?k39 ?a40 ?l40 ?c40 ?k40 ?a41 ?l41 ?c41 ?k41 ?a42 ?l42 ?c42 ?k42 ?a43 ?l43 ?c43 ?k43 ?a44 ?l44 ?c44 ?k44 ?a45 ?l45 ?c45 ?k45 ?a46 ?l46 ?c46 ?k46 ?a47 ?l47 ?c47 ?k47 ?a48 ?l48 ?c48 ?k48 ?a49 ?l49 ?c49 ?k49 ?a50 ?l50 ?c50 ?k50 ?a51 ?l51 ?c51 ?k51 ?a52 ?l52 ?c52 ?k52 ?a53 ?l53 ?c53 ?k53 ?a54 ?l54 ?c54 ?k54 ?a55 ?l55 ?c55 ?k55 ?a56 ?l56 ?c56 ?k56 ?a57 ?l57 ?c57 ?k57 ?a58 ?l58 ?c58 ?k58 ?a59 ?l59 ?c59 ?k59 ?a60 ?l60 ?c60 ?k60 ?a61 ?l61 ?c61 ?k61 ?a62 ?l62 ?c62 ?k62 ?a63 ?l63 ?c63 ?k63 ?a64 ?l64 ?c64 ?k64 ?a65 ?l65 ?c65 ?k65 ?z0 ?z1 ?z2 ?z3 ?z4 ?z5 ?z6 ?z7 ?z8 ?z9 ?z10 ?z11 ?z12 ?z13 ?z14 ?z15 ?y0 ?y1 ?y2 ?y3 ?y4 ?y5 ?y6 ?y7 ?y8 ?y9 ?y10 ?y11 ?y12 ?y13 ?y14 ?y15 ?y16 ?y17 ?y18 ?y19 ?yt0 ?kt0 ?kA_Bench ?kP_Bench ?kD_Bench ?kO_Bench ?kS_Bench ?kM_Bench ?kK_Bench ?kF_Bench ?kG_Bench ?kT_Bench ?kU_Bench ?kV_Bench ?kW_Bench ?kN_Bench_kept_beds ?kN_Bench_kept_pieces ?kN_Bench_long_and_wide ?kN_Bench_top ?kA_Wall ?kP_Wall ?kD_Wall ?kO_Wall ?kS_Wall ?kM_Wall ?kK_Wall ?kF_Wall ?kG_Wall ?kT_Wall ?kU_Wall ?kV_Wall ?kW_Wall ?kN_Wall_kept_courses ?u_NoBed ?u_NoMark ?u_NoPiece ?u_NoPlace ?u_NoPlan ?u_StoneError ?u_TooMany ?u_Unborne ?u_Wrong ?b5 ?b6 ?b7 ?b8 ?b9 ?v_StoneError_1 ?v_StoneError_2 ?v_StoneError_3 ?x_NoBed_1 ?x_NoBed_2 ?x_NoBed_3 ?x_NoBed_4 ?x_NoBed_5 ?x_NoBed_6 ?x_NoBed_7 ?x_NoBed_8 ?x_NoBed_9 ?x_NoBed_a ?x_NoBed_b ?x_NoBed_c ?x_NoBed_d ?x_NoBed_e ?x_NoBed_f ?x_NoBed_g ?x_NoBed_h ?c_NoBed_StoneError ?f_NoBed_at ?f_NoBed_mark ?f_NoBed_most ?f_NoBed_piece ?x_NoMark_1 ?x_NoMark_2 ?x_NoMark_3 ?x_NoMark_4 ?x_NoMark_5 ?x_NoMark_6 ?x_NoMark_7 ?x_NoMark_8 ?x_NoMark_9 ?x_NoMark_a ?x_NoMark_b ?x_NoMark_c ?x_NoMark_d ?x_NoMark_e ?x_NoMark_f ?x_NoMark_g ?x_NoMark_h ?c_NoMark_StoneError ?f_NoMark_at ?f_NoMark_mark ?f_NoMark_most ?f_NoMark_piece ?x_NoPiece_1 ?x_NoPiece_2 ?x_NoPiece_3 ?x_NoPiece_4 ?x_NoPiece_5 ?x_NoPiece_6 ?x_NoPiece_7 ?x_NoPiece_8 ?x_NoPiece_9 ?x_NoPiece_a ?x_NoPiece_b ?x_NoPiece_c ?x_NoPiece_d ?x_NoPiece_e ?x_NoPiece_f ?x_NoPiece_g ?x_NoPiece_h ?c_NoPiece_StoneError ?f_NoPiece_at ?f_NoPiece_mark ?f_NoPiece_most ?f_NoPiece_piece ?x_NoPlace_1 ?x_NoPlace_2 ?x_NoPlace_3 ?x_NoPlace_4 ?x_NoPlace_5 ?x_NoPlace_6 ?x_NoPlace_7 ?x_NoPlace_8 ?x_NoPlace_9 ?x_NoPlace_a ?x_NoPlace_b ?x_NoPlace_c ?x_NoPlace_d ?x_NoPlace_e ?x_NoPlace_f ?x_NoPlace_g ?x_NoPlace_h ?c_NoPlace_StoneError ?f_NoPlace_at ?f_NoPlace_mark ?f_NoPlace_most ?f_NoPlace_piece ?x_NoPlan_1 ?x_NoPlan_2 ?x_NoPlan_3 ?x_NoPlan_4 ?x_NoPlan_5 ?x_NoPlan_6 ?x_NoPlan_7 ?x_NoPlan_8 ?x_NoPlan_9 ?x_NoPlan_a ?x_NoPlan_b ?x_NoPlan_c ?x_NoPlan_d ?x_NoPlan_e ?x_NoPlan_f ?x_NoPlan_g ?x_NoPlan_h ?c_NoPlan_StoneError ?f_NoPlan_at ?f_NoPlan_mark ?f_NoPlan_most ?f_NoPlan_piece ?x_TooMany_1 ?x_TooMany_2 ?x_TooMany_3 ?x_TooMany_4 ?x_TooMany_5 ?x_TooMany_6 ?x_TooMany_7 ?x_TooMany_8 ?x_TooMany_9 ?x_TooMany_a ?x_TooMany_b ?x_TooMany_c ?x_TooMany_d ?x_TooMany_e ?x_TooMany_f ?x_TooMany_g ?x_TooMany_h ?c_TooMany_StoneError ?f_TooMany_at ?f_TooMany_mark ?f_TooMany_most ?f_TooMany_piece ?x_Unborne_1 ?x_Unborne_2 ?x_Unborne_3 ?x_Unborne_4 ?x_Unborne_5 ?x_Unborne_6 ?x_Unborne_7 ?x_Unborne_8 ?x_Unborne_9 ?x_Unborne_a ?x_Unborne_b ?x_Unborne_c ?x_Unborne_d ?x_Unborne_e ?x_Unborne_f ?x_Unborne_g ?x_Unborne_h ?c_Unborne_StoneError ?f_Unborne_at ?f_Unborne_mark ?f_Unborne_most ?f_Unborne_piece ?x_Wrong_1 ?x_Wrong_2 ?x_Wrong_3 ?x_Wrong_4 ?x_Wrong_5 ?x_Wrong_6 ?x_Wrong_7 ?x_Wrong_8 ?x_Wrong_9 ?x_Wrong_a ?x_Wrong_b ?x_Wrong_c ?x_Wrong_d ?x_Wrong_e ?x_Wrong_f ?x_Wrong_g ?x_Wrong_h ?c_Wrong_StoneError ?f_Wrong_at ?f_Wrong_mark ?f_Wrong_most ?f_Wrong_piece
    (case kA_Bench => k_is); (case kA_Wall => k_is); (case a15 => k_is); (case i15 => k_is); (case a16 => k_is); (case i16 => k_is); (case a17 => k_is); (case i17 => k_is); (case a18 => k_is); (case i18 => k_is); (case a19 => k_is); (case i19 => k_is); (case a20 => k_is); (case i20 => k_is); (case a21 => k_is); (case i21 => k_is); (case a22 => k_is); (case i22 => k_is); (case a28 => k_is); (case i28 => k_is); (case a29 => k_is); (case i29 => k_is); (case a30 => k_is); (case i30 => k_is); (case a31 => k_is); (case i31 => k_is); (case a32 => k_is); (case i32 => k_is); (case a33 => k_is); (case i33 => k_is); (case a34 => k_is); (case i34 => k_is); (case a35 => k_is); (case i35 => k_is); (case a36 => k_is); (case i36 => k_is); (case a0 => k_is); (case l0 => k_is); (case c0 => k_is); (case k0 => k_is); (case a1 => k_is); (case l1 => k_is); (case c1 => k_is); (case k1 => k_is); (case a2 => k_is); (case l2 => k_is); (case c2 => k_is); (case k2 => k_is); (case a3 => k_is); (case l3 => k_is); (case c3 => k_is); (case k3 => k_is); (case a4 => k_is); (case l4 => k_is); (case c4 => k_is); (case k4 => k_is); (case a5 => k_is); (case l5 => k_is); (case c5 => k_is); (case k5 => k_is); (case a6 => k_is); (case l6 => k_is); (case c6 => k_is); (case k6 => k_is); (case a7 => k_is); (case l7 => k_is); (case c7 => k_is); (case k7 => k_is); (case a8 => k_is); (case l8 => k_is); (case c8 => k_is); (case k8 => k_is); (case a9 => k_is); (case l9 => k_is); (case c9 => k_is); (case k9 => k_is); (case a10 => k_is); (case l10 => k_is); (case c10 => k_is); (case k10 => k_is); (case a11 => k_is); (case l11 => k_is); (case c11 => k_is); (case k11 => k_is); (case a12 => k_is); (case l12 => k_is); (case c12 => k_is); (case k12 => k_is); (case a13 => k_is); (case l13 => k_is); (case c13 => k_is); (case k13 => k_is); (case a14 => k_is); (case l14 => k_is); (case c14 => k_is); (case k14 => k_is); (case l15 => k_is); (case c15 => k_is); (case k15 => k_is); (case l16 => k_is); (case c16 => k_is); (case k16 => k_is); (case l17 => k_is); (case c17 => k_is); (case k17 => k_is); (case l18 => k_is); (case c18 => k_is); (case k18 => k_is); (case l19 => k_is); (case c19 => k_is); (case k19 => k_is); (case l20 => k_is); (case c20 => k_is); (case k20 => k_is); (case l21 => k_is); (case c21 => k_is); (case k21 => k_is); (case l22 => k_is); (case c22 => k_is); (case k22 => k_is); (case a23 => k_is); (case l23 => k_is); (case c23 => k_is); (case k23 => k_is); (case a24 => k_is); (case l24 => k_is); (case c24 => k_is); (case k24 => k_is); (case a25 => k_is); (case l25 => k_is); (case c25 => k_is); (case k25 => k_is); (case a26 => k_is); (case l26 => k_is); (case c26 => k_is); (case k26 => k_is); (case a27 => k_is); (case l27 => k_is); (case c27 => k_is); (case k27 => k_is); (case l28 => k_is); (case c28 => k_is); (case k28 => k_is); (case l29 => k_is); (case c29 => k_is); (case k29 => k_is); (case l30 => k_is); (case c30 => k_is); (case k30 => k_is); (case l31 => k_is); (case c31 => k_is); (case k31 => k_is); (case l32 => k_is); (case c32 => k_is); (case k32 => k_is); (case l33 => k_is); (case c33 => k_is); (case k33 => k_is); (case l34 => k_is); (case c34 => k_is); (case k34 => k_is); (case l35 => k_is); (case c35 => k_is); (case k35 => k_is); (case l36 => k_is); (case c36 => k_is); (case k36 => k_is); (case a37 => k_is); (case l37 => k_is); (case c37 => k_is); (case k37 => k_is); (case a38 => k_is); (case l38 => k_is); (case c38 => k_is); (case k38 => k_is); (case a39 => k_is); (case l39 => k_is); (case c39 => k_is); (case k39 => k_is); (case a40 => k_is); (case l40 => k_is); (case c40 => k_is); (case k40 => k_is); (case a41 => k_is); (case l41 => k_is); (case c41 => k_is); (case k41 => k_is); (case a42 => k_is); (case l42 => k_is); (case c42 => k_is); (case k42 => k_is); (case a43 => k_is); (case l43 => k_is); (case c43 => k_is); (case k43 => k_is); (case a44 => k_is); (case l44 => k_is); (case c44 => k_is); (case k44 => k_is); (case a45 => k_is); (case l45 => k_is); (case c45 => k_is); (case k45 => k_is); (case a46 => k_is); (case l46 => k_is); (case c46 => k_is); (case k46 => k_is); (case a47 => k_is); (case l47 => k_is); (case c47 => k_is); (case k47 => k_is); (case a48 => k_is); (case l48 => k_is); (case c48 => k_is); (case k48 => k_is); (case a49 => k_is); (case l49 => k_is); (case c49 => k_is); (case k49 => k_is); (case a50 => k_is); (case l50 => k_is); (case c50 => k_is); (case k50 => k_is); (case a51 => k_is); (case l51 => k_is); (case c51 => k_is); (case k51 => k_is); (case a52 => k_is); (case l52 => k_is); (case c52 => k_is); (case k52 => k_is); (case a53 => k_is); (case l53 => k_is); (case c53 => k_is); (case k53 => k_is); (case a54 => k_is); (case l54 => k_is); (case c54 => k_is); (case k54 => k_is); (case a55 => k_is); (case l55 => k_is); (case c55 => k_is); (case k55 => k_is); (case a56 => k_is); (case l56 => k_is); (case c56 => k_is); (case k56 => k_is); (case a57 => k_is); (case l57 => k_is); (case c57 => k_is); (case k57 => k_is); (case a58 => k_is); (case l58 => k_is); (case c58 => k_is); (case k58 => k_is); (case a59 => k_is); (case l59 => k_is); (case c59 => k_is); (case k59 => k_is); (case a60 => k_is); (case l60 => k_is); (case c60 => k_is); (case k60 => k_is); (case a61 => k_is); (case l61 => k_is); (case c61 => k_is); (case k61 => k_is); (case a62 => k_is); (case l62 => k_is); (case c62 => k_is); (case k62 => k_is); (case a63 => k_is); (case l63 => k_is); (case c63 => k_is); (case k63 => k_is); (case a64 => k_is); (case l64 => k_is); (case c64 => k_is); (case k64 => k_is); (case a65 => k_is); (case l65 => k_is); (case c65 => k_is); (case k65 => k_is); (case z0 => k_is); (case z1 => k_is); (case z2 => k_is); (case z3 => k_is); (case z4 => k_is); (case z5 => k_is); (case z6 => k_is); (case z7 => k_is); (case z8 => k_is); (case z9 => k_is); (case z10 => k_is); (case z11 => k_is); (case z12 => k_is); (case z13 => k_is); (case z14 => k_is); (case z15 => k_is); (case y0 => k_is); (case y1 => k_is); (case y2 => k_is); (case y3 => k_is); (case y4 => k_is); (case y5 => k_is); (case y6 => k_is); (case y7 => k_is); (case y8 => k_is); (case y9 => k_is); (case y10 => k_is); (case y11 => k_is); (case y12 => k_is); (case y13 => k_is); (case y14 => k_is); (case y15 => k_is); (case y16 => k_is); (case y17 => k_is); (case y18 => k_is); (case y19 => k_is); (case yt0 => k_is); (case kt0 => k_is); (case kP_Bench => k_is); (case kD_Bench => k_is); (case kO_Bench => k_is); (case kS_Bench => k_is); (case kM_Bench => k_is); (case kK_Bench => k_is); (case kF_Bench => k_is); (case kG_Bench => k_is); (case kT_Bench => k_is); (case kU_Bench => k_is); (case kV_Bench => k_is); (case kW_Bench => k_is); (case kN_Bench_kept_beds => k_is); (case kN_Bench_kept_pieces => k_is); (case kN_Bench_long_and_wide => k_is); (case kN_Bench_top => k_is); (case kP_Wall => k_is); (case kD_Wall => k_is); (case kO_Wall => k_is); (case kS_Wall => k_is); (case kM_Wall => k_is); (case kK_Wall => k_is); (case kF_Wall => k_is); (case kG_Wall => k_is); (case kT_Wall => k_is); (case kU_Wall => k_is); (case kV_Wall => k_is); (case kW_Wall => k_is); (case kN_Wall_kept_courses => k_is); (case u_NoBed => k_is); (case u_NoMark => k_is); (case u_NoPiece => k_is); (case u_NoPlace => k_is); (case u_NoPlan => k_is); (case u_StoneError => k_is); (case u_TooMany => k_is); (case u_Unborne => k_is); (case u_Wrong => k_is); (case b5 => k_is); (case b6 => k_is); (case b7 => k_is); (case b8 => k_is); (case b9 => k_is); (case v_StoneError_1 => k_is); (case v_StoneError_2 => k_is); (case v_StoneError_3 => k_is); (case x_NoBed_1 => k_is); (case x_NoBed_2 => first | k_is | rfl | decide +kernel); (case x_NoBed_3 => k_is); (case x_NoBed_4 => k_is); (case x_NoBed_5 => k_is); (case x_NoBed_6 => k_is); (case x_NoBed_7 => k_is); (case x_NoBed_8 => k_is); (case x_NoBed_9 => k_is); (case x_NoBed_a => k_is); (case x_NoBed_b => k_is); (case x_NoBed_c => k_is); (case x_NoBed_d => k_is); (case x_NoBed_e => k_is); (case x_NoBed_f => k_is); (case x_NoBed_g => k_is); (case x_NoBed_h => k_is); (case c_NoBed_StoneError => k_is); (case f_NoBed_at => k_is); (case f_NoBed_mark => k_is); (case f_NoBed_most => k_is); (case f_NoBed_piece => k_is); (case x_NoMark_1 => k_is); (case x_NoMark_2 => first | k_is | rfl | decide +kernel); (case x_NoMark_3 => k_is); (case x_NoMark_4 => k_is); (case x_NoMark_5 => k_is); (case x_NoMark_6 => k_is); (case x_NoMark_7 => k_is); (case x_NoMark_8 => k_is); (case x_NoMark_9 => k_is); (case x_NoMark_a => k_is); (case x_NoMark_b => k_is); (case x_NoMark_c => k_is); (case x_NoMark_d => k_is); (case x_NoMark_e => k_is); (case x_NoMark_f => k_is); (case x_NoMark_g => k_is); (case x_NoMark_h => k_is); (case c_NoMark_StoneError => k_is); (case f_NoMark_at => k_is); (case f_NoMark_mark => k_is); (case f_NoMark_most => k_is); (case f_NoMark_piece => k_is); (case x_NoPiece_1 => k_is); (case x_NoPiece_2 => first | k_is | rfl | decide +kernel); (case x_NoPiece_3 => k_is); (case x_NoPiece_4 => k_is); (case x_NoPiece_5 => k_is); (case x_NoPiece_6 => k_is); (case x_NoPiece_7 => k_is); (case x_NoPiece_8 => k_is); (case x_NoPiece_9 => k_is); (case x_NoPiece_a => k_is); (case x_NoPiece_b => k_is); (case x_NoPiece_c => k_is); (case x_NoPiece_d => k_is); (case x_NoPiece_e => k_is); (case x_NoPiece_f => k_is); (case x_NoPiece_g => k_is); (case x_NoPiece_h => k_is); (case c_NoPiece_StoneError => k_is); (case f_NoPiece_at => k_is); (case f_NoPiece_mark => k_is); (case f_NoPiece_most => k_is); (case f_NoPiece_piece => k_is); (case x_NoPlace_1 => k_is); (case x_NoPlace_2 => first | k_is | rfl | decide +kernel); (case x_NoPlace_3 => k_is); (case x_NoPlace_4 => k_is); (case x_NoPlace_5 => k_is); (case x_NoPlace_6 => k_is); (case x_NoPlace_7 => k_is); (case x_NoPlace_8 => k_is); (case x_NoPlace_9 => k_is); (case x_NoPlace_a => k_is); (case x_NoPlace_b => k_is); (case x_NoPlace_c => k_is); (case x_NoPlace_d => k_is); (case x_NoPlace_e => k_is); (case x_NoPlace_f => k_is); (case x_NoPlace_g => k_is); (case x_NoPlace_h => k_is); (case c_NoPlace_StoneError => k_is); (case f_NoPlace_at => k_is); (case f_NoPlace_mark => k_is); (case f_NoPlace_most => k_is); (case f_NoPlace_piece => k_is); (case x_NoPlan_1 => k_is); (case x_NoPlan_2 => first | k_is | rfl | decide +kernel); (case x_NoPlan_3 => k_is); (case x_NoPlan_4 => k_is); (case x_NoPlan_5 => k_is); (case x_NoPlan_6 => k_is); (case x_NoPlan_7 => k_is); (case x_NoPlan_8 => k_is); (case x_NoPlan_9 => k_is); (case x_NoPlan_a => k_is); (case x_NoPlan_b => k_is); (case x_NoPlan_c => k_is); (case x_NoPlan_d => k_is); (case x_NoPlan_e => k_is); (case x_NoPlan_f => k_is); (case x_NoPlan_g => k_is); (case x_NoPlan_h => k_is); (case c_NoPlan_StoneError => k_is); (case f_NoPlan_at => k_is); (case f_NoPlan_mark => k_is); (case f_NoPlan_most => k_is); (case f_NoPlan_piece => k_is); (case x_TooMany_1 => k_is); (case x_TooMany_2 => first | k_is | rfl | decide +kernel); (case x_TooMany_3 => k_is); (case x_TooMany_4 => k_is); (case x_TooMany_5 => k_is); (case x_TooMany_6 => k_is); (case x_TooMany_7 => k_is); (case x_TooMany_8 => k_is); (case x_TooMany_9 => k_is); (case x_TooMany_a => k_is); (case x_TooMany_b => k_is); (case x_TooMany_c => k_is); (case x_TooMany_d => k_is); (case x_TooMany_e => k_is); (case x_TooMany_f => k_is); (case x_TooMany_g => k_is); (case x_TooMany_h => k_is); (case c_TooMany_StoneError => k_is); (case f_TooMany_at => k_is); (case f_TooMany_mark => k_is); (case f_TooMany_most => k_is); (case f_TooMany_piece => k_is); (case x_Unborne_1 => k_is); (case x_Unborne_2 => first | k_is | rfl | decide +kernel); (case x_Unborne_3 => k_is); (case x_Unborne_4 => k_is); (case x_Unborne_5 => k_is); (case x_Unborne_6 => k_is); (case x_Unborne_7 => k_is); (case x_Unborne_8 => k_is); (case x_Unborne_9 => k_is); (case x_Unborne_a => k_is); (case x_Unborne_b => k_is); (case x_Unborne_c => k_is); (case x_Unborne_d => k_is); (case x_Unborne_e => k_is); (case x_Unborne_f => k_is); (case x_Unborne_g => k_is); (case x_Unborne_h => k_is); (case c_Unborne_StoneError => k_is); (case f_Unborne_at => k_is); (case f_Unborne_mark => k_is); (case f_Unborne_most => k_is); (case f_Unborne_piece => k_is); (case x_Wrong_1 => k_is); (case x_Wrong_2 => first | k_is | rfl | decide +kernel); (case x_Wrong_3 => k_is); (case x_Wrong_4 => k_is); (case x_Wrong_5 => k_is); (case x_Wrong_6 => k_is); (case x_Wrong_7 => k_is); (case x_Wrong_8 => k_is); (case x_Wrong_9 => k_is); (case x_Wrong_a => k_is); (case x_Wrong_b => k_is); (case x_Wrong_c => k_is); (case x_Wrong_d => k_is); (case x_Wrong_e => k_is); (case x_Wrong_f => k_is); (case x_Wrong_g => k_is); (case x_Wrong_h => k_is); (case c_Wrong_StoneError => k_is); (case f_Wrong_at => k_is); (case f_Wrong_mark => k_is); (case f_Wrong_most => k_is); (case f_Wrong_piece => k_is)




