import PyProof.Rows.All
import Wide.All
import OpenK.AllK
import Wide.FinOn
import HandS.ForMost
import HandS.Exc
import HandS.TryOnly
import HandS.ExcOwn
import HandS.WordsExc
import HandS.Wide
import HandS.Deep
import HandS.TupAny
import HandS.SortInts
import HandS.Style
import HandS.IsInst
import HandS.Conv
import HandS.Keys
import HandS.TupSets
import HandS.SetFor
import HandS.ExcInit
import HandS.ExcIs
import HandS.ExcField
import HandS.HotCalls
import HandS.SortKw
import KE.GoesEnumKw
import HandS.Dict
import HandS.More
import PyProof.EqAt
import HandS.DictTup
import HandS.Small
import HandS.Strs
import PyProof.DictMoreH
import HandS.Iter
import HandS.Walk
import HandS.TupLen
import HandS.SortRule
import HandS.Codes
import HandS.TryMany
import HandS.List
import KE.KDictPairs
import KE.KDictCopyH
import KE.KDictSum
import KE.KStateDown
import HandS.Base
import HandS.Call
import HandS.Ends
import HandS.Head0
import HandS.Head1
import HandS.Head2
import HandS.HeadEnd
import HandS.HeadHook1
import PyProof.Draws
import KE.GoesMore
import KE.GoesEnum
import HandS.Text
import HandS.HeadHook3
import PyProof.EqKinds
import PyProof.TupleCall
import KE.KRevSl
import KE.KxPercent
import HandS.DictComp
import KE.KEqDict
import PyProof.StrOps2
import PySem.Challenge.RW_bedstone_k94_texts_refused
set_option Elab.async false
set_option linter.all false
set_option maxRecDepth 100000
set_option maxHeartbeats 2000000
namespace QV
open PySem L2

inductive Lab where
  | fr | base | sl (i : Nat) | tm (k : Nat)
  deriving DecidableEq
abbrev Ow := Addr → Lab

inductive Kd where
  | lst | tup | dK (ks : List Key) | dT (ks : List (List Key)) | lkT (o : Obj) (ks : List (List Key)) | ins (C : Addr) (ks : List Str) | lsA (b : Addr)
inductive D where
  | non | bl (b : Bool) | int (i : Int) | str (x : Str) | scr (ns : List Int) | nd (k : Kd) (ds : List D) | exc (a C : Addr) (d : Option Addr) (ks : List Str) (ds : List D)
inductive T where
  | fz (d : D) | ow (k : Kd) (ds : List D) | nd (k : Kd) (ts : List T)
abbrev Env := List (Option T)

mutual
def T.d : T → D
  | .fz d => d
  | .ow k ds => .nd k ds
  | .nd k ts => .nd k (Tsd ts)
def Tsd : List T → List D
  | [] => []
  | t :: ts => T.d t :: Tsd ts
end
def Bs (H : Hp) (ow : Ow) : Hp := fun a => if ow a = .base then H a else match H a with
  | some (.tup vs) => some (.tup vs)
  | _ => none
theorem bs_of {H : Hp} {ow : Ow} {a : Addr} (h : ow a = .base) : Bs H ow a = H a := if_pos h
theorem bs_some {H : Hp} {ow : Ow} {a : Addr} {o : HO} (h : Bs H ow a = some o) : (ow a = .base ∨ ∃ vs, o = .tup vs) ∧ H a = some o := by
  unfold Bs at h
  by_cases e : ow a = .base
  · rw [if_pos e] at h; exact ⟨.inl e, h⟩
  · rw [if_neg e] at h
    split at h
    · rename_i vs e2
      cases h
      exact ⟨.inr ⟨vs, rfl⟩, e2⟩
    · cases h
theorem bs_tup {H : Hp} {ow : Ow} {a : Addr} {vs : List V} (h : H a = some (.tup vs)) : Bs H ow a = some (.tup vs) := by
  unfold Bs
  by_cases e : ow a = .base
  · rw [if_pos e]; exact h
  · rw [if_neg e, h]
theorem bs_map {H H' : Hp} {ow ow' : Ow} (f : ∀ a o, H a = some o → ow a = .base → H' a = some o ∧ ow' a = .base) (g : ∀ a vs, H a = some (.tup vs) → H' a = some (.tup vs)) : Same (Bs H ow) (Bs H' ow') := fun a o e => by
  obtain ⟨e1 | ⟨vs, rfl⟩, e2⟩ := bs_some e
  · obtain ⟨h1, h2⟩ := f a o e2 e1
    rw [bs_of h2]
    exact h1
  · exact bs_tup (g a vs e2)
theorem bs_lab {H : Hp} {ow ow' : Ow} (f : ∀ a, ow a = .base → ow' a = .base) : Same (Bs H ow) (Bs H ow') := bs_map (fun a _ e q => ⟨e, f a q⟩) fun _ _ e => e
def HOof (k : Kd) (dx : Addr) (vs : List V) : HO := match k with
  | .lst => .lst vs
  | .tup => .tup vs
  | .dK ks => .dK (ks.zip vs)
  | .dT ks => .dT (ks.zip vs)
  | .lkT o ks => .frz o (.dT (ks.zip vs))
  | .lsA _ => .lst vs
  | .ins C ks => .ins C dx (ks.zip vs)
def Fits (H : Hp) (a dx : Addr) (k : Kd) (vs : List V) : Prop := match k with
  | .lst => True
  | .tup => True
  | .dK ks => ks.length = vs.length
  | .dT ks => ks.length = vs.length
  | .lkT _ ks => ks.length = vs.length
  | .lsA b => b = a
  | .ins _ ks => ks.length = vs.length ∧ H dx = some (.own a) ∧ dx ≠ a
structure Cell (H : Hp) (a dx : Addr) (k : Kd) (vs : List V) : Prop where
  at_ : H a = some (HOof k dx vs)
  sz : vs.length ≤ sizeLine
  fit : Fits H a dx k vs
def Foot (a dx : Addr) (k : Kd) (b : Addr) : Prop := match k with
  | .ins _ _ => b = a ∨ b = dx
  | _ => b = a
theorem foot_a {a dx : Addr} {k : Kd} : Foot a dx k a := by cases k <;> first | rfl | exact .inl rfl

section
variable {K : PySem.W.Frag}
mutual
inductive Rp (K : PySem.W.Frag) (B : Hp) : V → D → Prop
  | non : Rp K B .non .non
  | bl (b : Bool) : Rp K B (.bl b) (.bl b)
  | int (i : Int) : Rp K B (.int i) (.int i)
  | str (x : Str) : Rp K B (.str x) (.str x)
  | scr {a : Addr} {ns : List Int} : SqL K B a (ns.map V.int) → Rp K B (.ref a) (.scr ns)
  | exc0 (a C : Addr) : Rp K B (.ref a) (.exc a C none [] [])
  | exc1 {a C dd : Addr} {ks : List Str} {vs : List V} {ds : List D} : B dd = some (.xd (ks.zip vs)) → ks.length = vs.length → Rps K B vs ds → Rp K B (.ref a) (.exc a C (some dd) ks ds)
  | tup {a : Addr} {vs : List V} {ds : List D} : B a = some (.tup vs) → vs.length ≤ sizeLine → Rps K B vs ds → Rp K B (.ref a) (.nd .tup ds)
  | cell {a dx : Addr} {k : Kd} {vs : List V} {ds : List D} : k ≠ .tup → Cell B a dx k vs → Rps K B vs ds → Rp K B (.ref a) (.nd k ds)
inductive Rps (K : PySem.W.Frag) (B : Hp) : List V → List D → Prop
  | nil : Rps K B [] []
  | cons {v : V} {d : D} {vs : List V} {ds : List D} : Rp K B v d → Rps K B vs ds → Rps K B (v :: vs) (d :: ds)
end

theorem Cell.mono {B B' : Hp} (e : Same B B') {a dx : Addr} {k : Kd} {vs : List V} (c : Cell B a dx k vs) : Cell B' a dx k vs := by
  refine ⟨e _ _ c.at_, c.sz, ?_⟩
  have f := c.fit
  cases k with
  | ins C ks => exact ⟨f.1, e _ _ f.2.1, f.2.2⟩
  | _ => exact f
theorem sqT_of {K : PySem.W.Frag} {H : Hp} {a : Addr} {xs : List V} (h : H a = some (.tup xs)) : SqT K H a xs := .inl (.inl h)
theorem sqT_mono {B B' : Hp} (e : Same B B') {a : Addr} {xs : List V} (h : SqT K B a xs) : SqT K B' a xs := by
  rcases h with (h | ⟨o, h⟩) | h
  · exact .inl (.inl (e _ _ h))
  · exact .inl (.inr ⟨o, e _ _ h⟩)
  · exact .inr h
mutual
theorem Rp.mono {B B' : Hp} (e : Same B B') : ∀ {v : V} {d : D}, Rp K B v d → Rp K B' v d
  | _, _, .non => .non
  | _, _, .bl b => .bl b
  | _, _, .int i => .int i
  | _, _, .str x => .str x
  | _, _, .scr h => .scr (e.seq h)
  | _, _, .exc0 a C => .exc0 a C
  | _, _, .exc1 h l r => .exc1 (e _ _ h) l (Rps.mono e r)
  | _, _, .tup h z r => .tup (e _ _ h) z (Rps.mono e r)
  | _, _, .cell n c r => .cell n (c.mono e) (Rps.mono e r)
theorem Rps.mono {B B' : Hp} (e : Same B B') : ∀ {vs : List V} {ds : List D}, Rps K B vs ds → Rps K B' vs ds
  | _, _, .nil => .nil
  | _, _, .cons r t => .cons (Rp.mono e r) (Rps.mono e t)
end
theorem Rps.len {B : Hp} : ∀ {vs : List V} {ds : List D}, Rps K B vs ds → vs.length = ds.length
  | _, _, .nil => rfl
  | _, _, .cons _ t => by rw [List.length_cons, List.length_cons, Rps.len t]
theorem Rps.get {B : Hp} : ∀ {vs : List V} {ds : List D} {i : Nat} {d : D}, Rps K B vs ds → ds[i]? = some d → ∃ v, vs[i]? = some v ∧ Rp K B v d
  | _, _, _, _, .nil, e => by simp at e
  | _, _, 0, _, .cons r _, e => by simp at e; subst e; exact ⟨_, rfl, r⟩
  | _, _, i + 1, d, .cons _ t, e => by
    obtain ⟨v, h1, h2⟩ := Rps.get (i := i) (d := d) t (by simpa using e)
    exact ⟨v, by simpa using h1, h2⟩
theorem Rps.app {B : Hp} : ∀ {vs ws : List V} {ds es : List D}, Rps K B vs ds → Rps K B ws es → Rps K B (vs ++ ws) (ds ++ es)
  | _, _, _, _, .nil, s => s
  | _, _, _, _, .cons r t, s => .cons r (Rps.app t s)
theorem Rps.take {B : Hp} : ∀ {vs : List V} {ds : List D} (n : Nat), Rps K B vs ds → Rps K B (vs.take n) (ds.take n)
  | _, _, 0, _ => by simpa using Rps.nil
  | _, _, _ + 1, .nil => .nil
  | _, _, n + 1, .cons r t => .cons r (Rps.take n t)
theorem Rps.drop {B : Hp} : ∀ {vs : List V} {ds : List D} (n : Nat), Rps K B vs ds → Rps K B (vs.drop n) (ds.drop n)
  | _, _, 0, r => r
  | _, _, _ + 1, .nil => .nil
  | _, _, n + 1, .cons _ t => Rps.drop n t
theorem Rps.set {B : Hp} {v : V} {d : D} (q : Rp K B v d) : ∀ {vs : List V} {ds : List D} (n : Nat), Rps K B vs ds → Rps K B (vs.set n v) (ds.set n d)
  | _, _, _, .nil => .nil
  | _, _, 0, .cons _ t => .cons q t
  | _, _, n + 1, .cons r t => .cons r (Rps.set q n t)
theorem Rp.cellOf {B : Hp} {a dx : Addr} {k : Kd} {vs : List V} {ds : List D} (c : Cell B a dx k vs) (rs : Rps K B vs ds) : Rp K B (.ref a) (.nd k ds) := by
  by_cases hk : k = .tup
  · subst hk
    exact .tup c.at_ c.sz rs
  · exact .cell hk c rs

mutual
inductive Tp (K : PySem.W.Frag) (H : Hp) (ow : Ow) (l : Lab) : V → T → (Addr → Prop) → Prop
  | fz {v : V} {d : D} : Rp K (Bs H ow) v d → Tp K H ow l v (.fz d) (fun _ => False)
  | ow {a dx : Addr} {k : Kd} {vs : List V} {ds : List D} : Cell H a dx k vs → (∀ b, Foot a dx k b → ow b = l) → Rps K (Bs H ow) vs ds → Tp K H ow l (.ref a) (.ow k ds) (Foot a dx k)
  | nd {a dx : Addr} {k : Kd} {vs : List V} {ts : List T} {S : Addr → Prop} : Cell H a dx k vs → (∀ b, Foot a dx k b → ow b = l ∧ ¬ S b) → Tps K H ow l vs ts S → Tp K H ow l (.ref a) (.nd k ts) (fun b => Foot a dx k b ∨ S b)
inductive Tps (K : PySem.W.Frag) (H : Hp) (ow : Ow) (l : Lab) : List V → List T → (Addr → Prop) → Prop
  | nil : Tps K H ow l [] [] (fun _ => False)
  | cons {v : V} {t : T} {vs : List V} {ts : List T} {S1 S2 : Addr → Prop} : Tp K H ow l v t S1 → Tps K H ow l vs ts S2 → (∀ b, S1 b → ¬ S2 b) → Tps K H ow l (v :: vs) (t :: ts) (fun b => S1 b ∨ S2 b)
end
def Tq (K : PySem.W.Frag) (H : Hp) (ow : Ow) (l : Lab) (v : V) (t : T) : Prop := ∃ S, Tp K H ow l v t S

theorem Cell.there {H : Hp} {a dx : Addr} {k : Kd} {vs : List V} (c : Cell H a dx k vs) {b : Addr} (f : Foot a dx k b) : ∃ o, H b = some o := by
  cases k with
  | ins C ks =>
    rcases f with rfl | rfl
    · exact ⟨_, c.at_⟩
    · exact ⟨_, c.fit.2.1⟩
  | _ =>
    have f' : b = a := f
    subst f'
    exact ⟨_, c.at_⟩
theorem Cell.at_same {H H' : Hp} {a dx : Addr} {k : Kd} {vs : List V} (c : Cell H a dx k vs) (e : ∀ b o, Foot a dx k b → H b = some o → H' b = some o) : Cell H' a dx k vs := by
  refine ⟨e a _ foot_a c.at_, c.sz, ?_⟩
  have f := c.fit
  cases k with
  | ins C ks => exact ⟨f.1, e _ _ (.inr rfl) f.2.1, f.2.2⟩
  | _ => exact f
mutual
theorem Tp.there {H : Hp} {ow : Ow} {l : Lab} : ∀ {v : V} {t : T} {S : Addr → Prop}, Tp K H ow l v t S → ∀ b, S b → ow b = l ∧ ∃ o, H b = some o
  | _, _, _, .fz _, _, h => h.elim
  | _, _, _, .ow c f r, b, h => ⟨f b h, c.there h⟩
  | _, _, _, .nd c f r, b, h => by
    rcases h with h | h
    · exact ⟨(f b h).1, c.there h⟩
    · exact Tps.there r b h
theorem Tps.there {H : Hp} {ow : Ow} {l : Lab} : ∀ {v : List V} {t : List T} {S : Addr → Prop}, Tps K H ow l v t S → ∀ b, S b → ow b = l ∧ ∃ o, H b = some o
  | _, _, _, .nil, _, h => h.elim
  | _, _, _, .cons r s _, b, h => by
    rcases h with h | h
    · exact Tp.there r b h
    · exact Tps.there s b h
end
structure Car (H H' : Hp) (ow ow' : Ow) (l l' : Lab) : Prop where
  bs : Same (Bs H ow) (Bs H' ow')
  own : ∀ a o, H a = some o → ow a = l → H' a = some o ∧ ow' a = l'
mutual
theorem Tp.car {H H' : Hp} {ow ow' : Ow} {l l' : Lab} : ∀ {v : V} {t : T} {S : Addr → Prop}, (Same (Bs H ow) (Bs H' ow')) → (∀ a o, S a → H a = some o → ow a = l → H' a = some o ∧ ow' a = l') → Tp K H ow l v t S → Tp K H' ow' l' v t S
  | _, _, _, e, _, .fz r => .fz (r.mono e)
  | _, _, _, e, k, .ow c f r => .ow (c.at_same fun b o fb q => (k b o fb q (f b fb)).1) (fun b fb => let ⟨o, q⟩ := c.there fb; (k b o fb q (f b fb)).2) (r.mono e)
  | _, _, _, e, k, .nd c f r => .nd (c.at_same fun b o fb q => (k b o (.inl fb) q (f b fb).1).1)
      (fun b fb => let ⟨o, q⟩ := c.there fb; ⟨(k b o (.inl fb) q (f b fb).1).2, (f b fb).2⟩) (Tps.car e (fun b o s => k b o (.inr s)) r)
theorem Tps.car {H H' : Hp} {ow ow' : Ow} {l l' : Lab} : ∀ {v : List V} {t : List T} {S : Addr → Prop}, (Same (Bs H ow) (Bs H' ow')) → (∀ a o, S a → H a = some o → ow a = l → H' a = some o ∧ ow' a = l') → Tps K H ow l v t S → Tps K H' ow' l' v t S
  | _, _, _, _, _, .nil => .nil
  | _, _, _, e, k, .cons r s d => .cons (Tp.car e (fun b o q => k b o (.inl q)) r) (Tps.car e (fun b o q => k b o (.inr q)) s) d
end
theorem Car.tp {H H' : Hp} {ow ow' : Ow} {l l' : Lab} (c : Car H H' ow ow' l l') {v : V} {t : T} {S : Addr → Prop} (h : Tp K H ow l v t S) : Tp K H' ow' l' v t S := h.car c.bs fun a o _ => c.own a o
theorem Car.tq {H H' : Hp} {ow ow' : Ow} {l l' : Lab} (c : Car H H' ow ow' l l') {v : V} {t : T} (h : Tq K H ow l v t) : Tq K H' ow' l' v t := h.imp fun _ => c.tp

mutual
theorem Tp.all {H B : Hp} {ow : Ow} {l : Lab} : ∀ {v : V} {t : T} {S : Addr → Prop}, Same (Bs H ow) B → (∀ a o, S a → H a = some o → ow a = l → B a = some o) → Tp K H ow l v t S → Rp K B v t.d
  | _, .fz _, _, e, _, .fz r => r.mono e
  | _, .ow kd ds, _, e, k, .ow c f r => Rp.cellOf (c.at_same (H' := B) fun b o fb q => k b o fb q (f b fb)) (r.mono e)
  | _, .nd kd ts, _, e, k, .nd c f r => by
    have c' := c.at_same (H' := B) fun b o fb q => k b o (.inl fb) q (f b fb).1
    have rs := Tps.all e (fun b o s => k b o (.inr s)) r
    exact Rp.cellOf c' rs
theorem Tps.all {H B : Hp} {ow : Ow} {l : Lab} : ∀ {v : List V} {t : List T} {S : Addr → Prop}, Same (Bs H ow) B → (∀ a o, S a → H a = some o → ow a = l → B a = some o) → Tps K H ow l v t S → Rps K B v (Tsd t)
  | _, _, _, _, _, .nil => .nil
  | _, _, _, e, k, .cons r s _ => .cons (Tp.all e (fun b o q => k b o (.inl q)) r) (Tps.all e (fun b o q => k b o (.inr q)) s)
end
theorem bs_same (H : Hp) (ow : Ow) : Same (Bs H ow) H := fun _ _ e => (bs_some e).2
theorem Tq.rd {H : Hp} {ow : Ow} {l : Lab} {v : V} {t : T} (h : Tq K H ow l v t) : Rp K H v t.d :=
  let ⟨_, h⟩ := h; h.all (bs_same H ow) fun _ _ _ q _ => q
theorem Tps.len {H : Hp} {ow : Ow} {l : Lab} : ∀ {vs : List V} {ts : List T} {S : Addr → Prop}, Tps K H ow l vs ts S → vs.length = ts.length
  | _, _, _, .nil => rfl
  | _, _, _, .cons _ t _ => by rw [List.length_cons, List.length_cons, Tps.len t]
end
end QV

set_option Elab.async false
set_option linter.all false
set_option maxRecDepth 100000
set_option maxHeartbeats 2000000
namespace QV
open PySem L2

structure Rz where
  C : Addr
  ks : List Str
  ds : List D
abbrev XQ := Rz → Env → Prop
abbrev SemE := Env → (T → Env → Prop) → XQ → Prop
abbrev SemP := Env → (T → List Nat → Env → Prop) → XQ → Prop
abbrev SemT := Env → (Bool → Env → Prop) → XQ → Prop
section
variable {K : PySem.W.Frag} {H H' H1 H2 : Hp} {ow ow' ow1 ow2 : Ow} {l l' : Lab} {v : V} {t : T} {M M' M1 M2 : List Nat} {n n' n1 n2 : Nat} {σ : L2.St} {env env' : Env} {p a : Addr} {o : HO}

structure StOk (K : PySem.W.Frag) (H : Hp) (ow : Ow) (σ : L2.St) (env : Env) : Prop where
  len : env.length = σ.length
  at_ : ∀ (i : Nat) (t : T), env[i]? = some (some t) → ∃ v, σ[i]? = some (some v) ∧ Tq K H ow (.sl i) v t
def Prot (M : List Nat) (n : Nat) : Lab → Prop
  | .fr => True
  | .base => True
  | .sl i => i ∉ M
  | .tm k => k < n
theorem Prot.mono (hM : ∀ i ∈ M', i ∈ M) (hn : n ≤ n') (h : Prot M n l) : Prot M' n' l := by
  cases l with
  | sl i => exact fun q => h (hM i q)
  | tm k => exact Nat.lt_of_lt_of_le h hn
  | _ => trivial
structure Stp (M : List Nat) (n : Nat) (H : Hp) (ow : Ow) (H' : Hp) (ow' : Ow) : Prop where
  go : ∀ a o, H a = some o → Prot M n (ow a) → H' a = some o ∧ ow' a = ow a
  tp : ∀ a vs, H a = some (.tup vs) → H' a = some (.tup vs)
instance : CoeFun (Stp M n H ow H' ow') (fun _ => ∀ a o, H a = some o → Prot M n (ow a) → H' a = some o ∧ ow' a = ow a) := ⟨Stp.go⟩
structure Out (M : List Nat) (env env' : Env) : Prop where
  len : env'.length = env.length
  eq : ∀ i, i ∉ M → env'[i]? = env[i]?
theorem Stp.refl : Stp M n H ow H ow := ⟨fun _ _ h _ => ⟨h, rfl⟩, fun _ _ h => h⟩
theorem Stp.trans (x : Stp M1 n1 H ow H1 ow1) (y : Stp M2 n2 H1 ow1 H2 ow2) (h1 : ∀ i ∈ M1, i ∈ M) (h2 : ∀ i ∈ M2, i ∈ M) (k1 : n ≤ n1) (k2 : n ≤ n2) : Stp M n H ow H2 ow2 := ⟨fun a o e q => by
  obtain ⟨e1, q1⟩ := x a o e (q.mono h1 k1)
  obtain ⟨e2, q2⟩ := y a o e1 (by rw [q1]; exact q.mono h2 k2)
  exact ⟨e2, q2.trans q1⟩, fun a vs e => y.tp a vs (x.tp a vs e)⟩
theorem Stp.mono (x : Stp M1 n1 H ow H1 ow1) (h1 : ∀ i ∈ M1, i ∈ M) (k1 : n ≤ n1) : Stp M n H ow H1 ow1 := ⟨fun a o e q => x a o e (q.mono h1 k1), x.tp⟩
theorem Out.refl : Out M env env := ⟨rfl, fun _ _ => rfl⟩
theorem Out.trans {e1 e2 e3 : Env} (x : Out M1 e1 e2) (y : Out M2 e2 e3) (h1 : ∀ i ∈ M1, i ∈ M) (h2 : ∀ i ∈ M2, i ∈ M) : Out M e1 e3 := ⟨y.len.trans x.len, fun i hi => (y.eq i fun z => hi (h2 i z)).trans (x.eq i fun z => hi (h1 i z))⟩
theorem Out.mono {e1 e2 : Env} (x : Out M1 e1 e2) (h1 : ∀ i ∈ M1, i ∈ M) : Out M e1 e2 := ⟨x.len, fun i hi => x.eq i fun z => hi (h1 i z)⟩
theorem Out.set1 {i : Nat} {x : Option T} : Out [i] env (env.set i x) := ⟨List.length_set, fun j hj => List.getElem?_set_ne (fun z => hj (by simp [z]))⟩
theorem Stp.bs (x : Stp M n H ow H' ow') : Same (Bs H ow) (Bs H' ow') := bs_map (fun a o e q => by
  obtain ⟨h1, h2⟩ := x a o e (by rw [q]; trivial)
  exact ⟨h1, h2.trans q⟩) x.tp
theorem Stp.car (x : Stp M n H ow H' ow') (h : Prot M n l) : Car H H' ow ow' l l := ⟨x.bs, fun a o e q => by
  obtain ⟨h1, h2⟩ := x a o e (by rw [q]; exact h)
  exact ⟨h1, h2.trans q⟩⟩
theorem StOk.stp (s : StOk K H ow σ env) (x : Stp M n H ow H' ow') (out : Out M env env') (k : ∀ i t, i ∈ M → env'[i]? = some (some t) → ∃ v, σ[i]? = some (some v) ∧ Tq K H' ow' (.sl i) v t) : StOk K H' ow' σ env' := ⟨out.len.trans s.len, fun i t e => by
  by_cases h : i ∈ M
  · exact k i t h e
  · rw [out.eq i h] at e
    obtain ⟨v, q, r⟩ := s.at_ i t e
    exact ⟨v, q, (x.car (l := .sl i) h).tq r⟩⟩
theorem StOk.stp0 (s : StOk K H ow σ env) (x : Stp [] n H ow H' ow') : StOk K H' ow' σ env := s.stp x Out.refl fun _ _ h => nomatch h

def Ow.put (ow : Ow) (p : Addr) (l : Lab) : Ow := fun b => if b = p then l else ow b
theorem put_same : Ow.put ow p l p = l := if_pos rfl
theorem put_ne {b : Addr} (h : b ≠ p) : Ow.put ow p l b = ow b := if_neg h
theorem Stp.new (h : H p = none) : Stp M n H ow (upd H p o) (Ow.put ow p l) := ⟨fun a u e _ => by
  have ne := ne_of_none e h
  exact ⟨by rw [upd_ne ne]; exact e, put_ne ne⟩, fun a vs e => by rw [upd_ne (ne_of_none e h)]; exact e⟩
theorem Tq.newL {vs : List V} {ds : List D} (h : H p = none) (z : vs.length ≤ sizeLine) (r : Rps K (Bs H ow) vs ds) : Tq K (upd H p (.lst vs)) (Ow.put ow p l) l (.ref p) (.ow .lst ds) :=
  ⟨_, .ow (dx := p) ⟨upd_same, z, trivial⟩ (fun b fb => by
    have e : b = p := fb
    rw [e]; exact put_same) (r.mono (Stp.bs (M := []) (n := 0) (Stp.new h)))⟩
theorem Tq.newT {vs : List V} {ds : List D} (h : H p = none) (z : vs.length ≤ sizeLine) (r : Rps K (Bs H ow) vs ds) : Tq K (upd H p (.tup vs)) (Ow.put ow p l) l (.ref p) (.ow .tup ds) :=
  ⟨_, .ow (dx := p) ⟨upd_same, z, trivial⟩ (fun b fb => by
    have e : b = p := fb
    rw [e]; exact put_same) (r.mono (Stp.bs (M := []) (n := 0) (Stp.new h)))⟩
def Ow.mv (ow : Ow) (l l' : Lab) : Ow := fun b => if ow b = l then l' else ow b
theorem mv_eq {b : Addr} (h : ow b = l) : Ow.mv ow l l' b = l' := if_pos h
theorem mv_ne {b : Addr} (h : ow b ≠ l) : Ow.mv ow l l' b = ow b := if_neg h
theorem Stp.mv (h : ¬ Prot M n l) : Stp M n H ow H (Ow.mv ow l l') := ⟨fun a u e q => ⟨e, mv_ne fun z => h (z ▸ q)⟩, fun _ _ e => e⟩
theorem bs_mv (h : l ≠ .base) : Same (Bs H ow) (Bs H (Ow.mv ow l l')) := bs_lab fun a e1 => by rw [mv_ne (by rw [e1]; exact fun z => h z.symm)]; exact e1
theorem Tq.mv (h : l ≠ .base) (r : Tq K H ow l v t) : Tq K H (Ow.mv ow l l') l' v t := Car.tq ⟨bs_mv h, fun _ _ e q => ⟨e, mv_eq q⟩⟩ r
theorem Tq.frz (h : l ≠ .base) (r : Tq K H ow l v t) : Rp K (Bs H (Ow.mv ow l .base)) v t.d :=
  let ⟨_, r⟩ := r; r.all (bs_mv h) fun a o _ e q => by rw [bs_of (mv_eq q)]; exact e
theorem Tq.fz_ {d : D} : Tq K H ow l v (.fz d) ↔ Rp K (Bs H ow) v d := ⟨fun ⟨_, h⟩ => by cases h; assumption, fun h => ⟨_, .fz h⟩⟩
theorem not_tm : ¬ Prot M n (.tm n) := Nat.lt_irrefl n
theorem not_sl {i : Nat} (h : i ∈ M) : ¬ Prot M n (.sl i) := fun q => q h

theorem zip_inj {α β : Type} : ∀ {ks : List α} {vs ws : List β}, ks.length = vs.length → ks.length = ws.length → ks.zip vs = ks.zip ws → vs = ws
  | [], [], [], _, _, _ => rfl
  | k :: ks, v :: vs, w :: ws, h1, h2, h => by
    rw [List.zip_cons_cons, List.zip_cons_cons] at h
    obtain ⟨e1, e2⟩ := List.cons.inj h
    rw [(Prod.mk.inj e1).2, zip_inj (Nat.succ.inj h1) (Nat.succ.inj h2) e2]
theorem Cell.inj {dx dx' : Addr} {k : Kd} {vs ws : List V} (c : Cell H a dx k vs) (c' : Cell H a dx' k ws) : vs = ws := by
  have e := Option.some.inj (c.at_.symm.trans c'.at_)
  cases k with
  | lst => exact HO.lst.inj e
  | tup => exact HO.tup.inj e
  | dK ks => exact zip_inj c.fit c'.fit (HO.dK.inj e)
  | dT ks => exact zip_inj c.fit c'.fit (HO.dT.inj e)
  | lkT o ks => exact zip_inj c.fit c'.fit (HO.dT.inj (HO.frz.inj e).2)
  | lsA b => exact HO.lst.inj e
  | ins C ks => exact zip_inj c.fit.1 c'.fit.1 (HO.ins.inj e).2.2
inductive Sub (K : PySem.W.Frag) (H : Hp) (ow : Ow) (l : Lab) : V → T → List Nat → V → T → Prop
  | nil {v : V} {t : T} : Sub K H ow l v t [] v t
  | cons {a dx : Addr} {k : Kd} {vs : List V} {ts : List T} {j : Nat} {p : List Nat} {v1 v : V} {t1 t : T} : Cell H a dx k vs → (∀ b, Foot a dx k b → ow b = l) → vs[j]? = some v1 → ts[j]? = some t1 → Sub K H ow l v1 t1 p v t → Sub K H ow l (.ref a) (.nd k ts) (j :: p) v t
theorem Tps.get : ∀ {vs : List V} {ts : List T} {S : Addr → Prop} {j : Nat} {v : V} {t : T}, Tps K H ow l vs ts S → vs[j]? = some v → ts[j]? = some t → ∃ S', Tp K H ow l v t S'
  | _, _, _, _, _, _, .nil, e, _ => by simp at e
  | _, _, _, 0, _, _, .cons r _ _, e, e' => by simp at e e'; subst e e'; exact ⟨_, r⟩
  | _, _, _, j + 1, v, t, .cons _ s _, e, e' => Tps.get (j := j) s (by simpa using e) (by simpa using e')
theorem Sub.tq {v0 v : V} {t0 t : T} {pt : List Nat} (s : Sub K H ow l v0 t0 pt v t) : Tq K H ow l v0 t0 → Tq K H ow l v t := by
  induction s with
  | nil => exact id
  | cons c f e1 e2 _ ih =>
    rintro ⟨S, r⟩
    cases r with
    | nd c' f' r' =>
      have e := c'.inj c
      subst e
      obtain ⟨S', r1⟩ := r'.get e1 e2
      exact ih ⟨S', r1⟩
theorem Sub.car {v0 v : V} {t0 t : T} {pt : List Nat} (c : Car H H' ow ow' l l') (s : Sub K H ow l v0 t0 pt v t) : Sub K H' ow' l' v0 t0 pt v t := by
  induction s with
  | nil => exact .nil
  | cons q f e1 e2 _ ih => exact .cons (q.at_same fun b o fb e => (c.own b o e (f b fb)).1) (fun b fb => let ⟨o, e⟩ := q.there fb; (c.own b o e (f b fb)).2) e1 e2 ih
def Plc (K : PySem.W.Frag) (H : Hp) (ow : Ow) (σ : L2.St) (env : Env) (n : Nat) (root : Option Nat) (v : V) (t : T) (pt : List Nat) : Prop :=
  (∃ d, t = .fz d ∧ Rp K (Bs H ow) v d) ∨ (root = none ∧ Tq K H ow (.tm n) v t) ∨
    ∃ i v0 t0, root = some i ∧ σ[i]? = some (some v0) ∧ env[i]? = some (some t0) ∧ Sub K H ow (.sl i) v0 t0 pt v t
def Ro (K : PySem.W.Frag) (H : Hp) (ow : Ow) (v : V) (t : T) : Prop := ∃ l, Tq K H ow l v t
theorem Plc.ro {root : Option Nat} {pt : List Nat} (s : StOk K H ow σ env) (h : Plc K H ow σ env n root v t pt) : Ro K H ow v t := by
  rcases h with ⟨d, rfl, r⟩ | ⟨_, r⟩ | ⟨i, v0, t0, _, e1, e2, r⟩
  · exact ⟨.fr, Tq.fz_.mpr r⟩
  · exact ⟨_, r⟩
  · obtain ⟨w, e3, q⟩ := s.at_ i t0 e2
    rw [e1] at e3
    cases e3
    exact ⟨_, r.tq q⟩
def okR (r : Option Nat) (M : List Nat) : Bool := match r with
  | none => true
  | some i => decide (i ∉ M)
theorem Plc.stp {root : Option Nat} {pt : List Nat} (h : Plc K H ow σ env n root v t pt) (x : Stp M n' H ow H' ow') (out : Out M env env') (hr : okR root M = true) (hn : n < n') : Plc K H' ow' σ env' n root v t pt := by
  rcases h with ⟨d, rfl, r⟩ | ⟨e, r⟩ | ⟨i, v0, t0, rfl, e1, e2, r⟩
  · exact .inl ⟨d, rfl, r.mono x.bs⟩
  · exact .inr (.inl ⟨e, (x.car (l := .tm n) hn).tq r⟩)
  · have hi : i ∉ M := of_decide_eq_true hr
    exact .inr (.inr ⟨i, v0, t0, rfl, e1, (out.eq i hi).trans e2, r.car (x.car (l := .sl i) hi)⟩)
theorem Ro.rd (h : Ro K H ow v t) : Rp K H v t.d := let ⟨_, h⟩ := h; h.rd

def Rzp (K : PySem.W.Frag) (H : Hp) (ow : Ow) (d : Option Addr) (r : Rz) : Prop := match d with
  | some d => ∃ vs, Bs H ow d = some (.xd (r.ks.zip vs)) ∧ r.ks.length = vs.length ∧ Rps K (Bs H ow) vs r.ds
  | none => r.ks = [] ∧ r.ds = []
def Xk (K : PySem.W.Frag) (W : WX) (M : List Nat) (σ : L2.St) (H : Hp) (n : Nat) (ow : Ow) (env : Env) (E : XQ) : Prop :=
  ∀ (r : Rz) (d : Option Addr) (H' : Hp) (ow' : Ow) (env' : Env), Stp M n H ow H' ow' → StOk K H' ow' σ env' → Out M env env' → Rzp K H' ow' d r → E r env' → W (.ref r.C) d σ H'
def tP (K : PySem.W.Frag) (W : WX) (M : List Nat) (root : Option Nat) (q : SemP) : TE := fun σ H Qv => ∃ (n : Nat) (ow : Ow) (env : Env) (Q : T → List Nat → Env → Prop) (E : XQ), StOk K H ow σ env ∧ q env Q E ∧
  (∀ (v : V) (t : T) (pt : List Nat) (H' : Hp) (ow' : Ow) (env' : Env), Stp M n H ow H' ow' → StOk K H' ow' σ env' → Out M env env' → Plc K H' ow' σ env' n root v t pt → Q t pt env' → Qv v H') ∧ Xk K W M σ H n ow env E
def tQ (K : PySem.W.Frag) (W : WX) (M : List Nat) (q : SemE) : TE := fun σ H Qv => ∃ (n : Nat) (ow : Ow) (env : Env) (Q : T → Env → Prop) (E : XQ), StOk K H ow σ env ∧ q env Q E ∧
  (∀ (v : V) (t : T) (H' : Hp) (ow' : Ow) (env' : Env), Stp M n H ow H' ow' → StOk K H' ow' σ env' → Out M env env' → Tq K H' ow' (.tm n) v t → Q t env' → Qv v H') ∧ Xk K W M σ H n ow env E
def tT (K : PySem.W.Frag) (W : WX) (M : List Nat) (q : SemT) : TT := fun σ H Qv => ∃ (n : Nat) (ow : Ow) (env : Env) (Q : Bool → Env → Prop) (E : XQ), StOk K H ow σ env ∧ q env Q E ∧
  (∀ (b : Bool) (H' : Hp) (ow' : Ow) (env' : Env), Stp M n H ow H' ow' → StOk K H' ow' σ env' → Out M env env' → Q b env' → Qv b H') ∧ Xk K W M σ H n ow env E
theorem Xk.step {W : WX} {E : XQ} (k : Xk K W M σ H n ow env E) (x : Stp M1 n1 H ow H1 ow1) {env1 : Env} (out : Out M1 env env1) (h1 : ∀ i ∈ M1, i ∈ M) (h2 : ∀ i ∈ M2, i ∈ M) (k1 : n ≤ n1) (k2 : n ≤ n2) : Xk K W M2 σ H1 n2 ow1 env1 E :=
  fun r d H' ow' env' y s o2 z e => k r d H' ow' env' (x.trans y h1 h2 k1 k2) s (out.trans o2 h1 h2) z e
end

structure QP (X : Cx) (W : WX) (M : List Nat) (root : Option Nat) (e : Expr) (q : SemP) : Prop where
  run : PE X e (tP X.K W M root q)
structure QE (X : Cx) (W : WX) (M : List Nat) (e : Expr) (q : SemE) : Prop where
  run : PE X e (tQ X.K W M q)
structure QT (X : Cx) (W : WX) (M : List Nat) (e : Expr) (q : SemT) : Prop where
  run : PT X e (tT X.K W M q)
theorem PE_imp {X : Cx} {e : Expr} {t t' : TE} (h : PE X e t) (f : ∀ σ H Q, t' σ H Q → t σ H Q) : PE X e t' := ⟨fun pins s σ H Q I q => h.run pins s σ H Q I (f _ _ _ q)⟩
theorem PT_imp {X : Cx} {e : Expr} {t t' : TT} (h : PT X e t) (f : ∀ σ H Q, t' σ H Q → t σ H Q) : PT X e t' := ⟨fun pins s σ H Q I q => h.run pins s σ H Q I (f _ _ _ q)⟩
section
variable {X : Cx} {W : WX} {M M' Ma Mb : List Nat} {e a b : Expr} {q qa qb : SemE} {pa pb : SemP} {ra rb root : Option Nat} {pos : Pos}
theorem nilsub {M : List Nat} : ∀ i ∈ ([] : List Nat), i ∈ M := fun _ h => nomatch h
theorem subl {Ma Mb : List Nat} : ∀ i ∈ Ma, i ∈ Ma ++ Mb := fun _ h => List.mem_append_left _ h
theorem subr {Ma Mb : List Nat} : ∀ i ∈ Mb, i ∈ Ma ++ Mb := fun _ h => List.mem_append_right _ h
theorem QE.more (h : QE X W M e q) (hs : ∀ i ∈ M, i ∈ M') : QE X W M' e q := ⟨PE_imp h.run fun σ H Qv ⟨n, ow, env, Q, E, s, hq, k, x⟩ =>
  ⟨n, ow, env, Q, E, s, hq, fun v t H' ow' env' y s' o r z => k v t H' ow' env' (y.mono hs (Nat.le_refl _)) s' (o.mono hs) r z, fun r d H' ow' env' y s' o => x r d H' ow' env' (y.mono hs (Nat.le_refl _)) s' (o.mono hs)⟩⟩
theorem QT.more {q : SemT} (h : QT X W M e q) (hs : ∀ i ∈ M, i ∈ M') : QT X W M' e q := ⟨PT_imp h.run fun σ H Qv ⟨n, ow, env, Q, E, s, hq, k, x⟩ =>
  ⟨n, ow, env, Q, E, s, hq, fun v H' ow' env' y s' o z => k v H' ow' env' (y.mono hs (Nat.le_refl _)) s' (o.mono hs) z, fun r d H' ow' env' y s' o => x r d H' ow' env' (y.mono hs (Nat.le_refl _)) s' (o.mono hs)⟩⟩
def sPE (q : SemE) : SemP := fun env Q E => q env (fun t env' => Q t [] env') E
theorem QE.p (h : QE X W M e q) : QP X W M none e (sPE q) := ⟨PE_imp h.run fun σ H Qv ⟨n, ow, env, Q, E, s, hq, k, x⟩ =>
  ⟨n, ow, env, fun t env' => Q t [] env', E, s, hq, fun v t H' ow' env' y s' o r z => k v t [] H' ow' env' y s' o (.inr (.inl ⟨rfl, r⟩)) z, x⟩⟩
def sFz (q : SemE) : SemE := fun env Q E => q env (fun t env' => Q (.fz t.d) env') E
theorem QE.fz (h : QE X W M e q) : QE X W M e (sFz q) := ⟨PE_imp h.run fun σ H Qv ⟨n, ow, env, Q, E, s, hq, k, x⟩ =>
  ⟨n, ow, env, fun t env' => Q (.fz t.d) env', E, s, hq, fun v t H' ow' env' y s' o r z => by
    have y2 : Stp [] n H' ow' H' (Ow.mv ow' (.tm n) .base) := Stp.mv not_tm
    exact k v (.fz t.d) H' _ env' (y.trans y2 (fun _ h => h) nilsub (Nat.le_refl _) (Nat.le_refl _)) (s'.stp0 y2) o (Tq.fz_.mpr (r.frz (fun z => nomatch z))) z, x⟩⟩
def sEP (q : SemP) : SemE := fun env Q E => q env (fun t _ env' => match t with | .fz d => Q (.fz d) env' | _ => False) E
theorem QP.val (h : QP X W M root e pa) : QE X W M e (sEP pa) := ⟨PE_imp h.run fun σ H Qv ⟨n, ow, env, Q, E, s, hq, k, x⟩ =>
  ⟨n, ow, env, _, E, s, hq, fun v t pt H' ow' env' y s' o r z => by
    cases t with
    | fz d =>
      obtain ⟨l, r'⟩ := r.ro s'
      exact k v (.fz d) H' ow' env' y s' o (Tq.fz_.mpr (Tq.fz_.mp r')) z
    | ow _ _ => exact z.elim
    | nd _ _ => exact z.elim, x⟩⟩

def sNm (i : Nat) : SemP := fun env Q _ => match env[i]? with
  | some (some t) => Q t [] env
  | _ => False
theorem p_nm (i : Nat) {x : Str} (hN : X.N[i]? = some x := by rfl) (hv : Vis X.env.scope x := by first | exact Or.inl rfl | exact Or.inr (Or.inl rfl) | exact Or.inr (Or.inr rfl)) (hd : (x == ("__debug__" : Str)) = false := by decide)
    (hcd : (x == ("__classdict__" : Str)) = false := by decide) : QP X W [] (some i) (.Name x pos) (sNm i) := ⟨PE_imp (pe_var (i := i) hN hv hd hcd) fun σ H Qv ⟨n, ow, env, Q, E, s, hq, k, _⟩ => by
  unfold sNm at hq
  split at hq
  · rename_i t e
    obtain ⟨v, e1, r⟩ := s.at_ i t e
    exact ⟨v, e1, k v t [] H ow env Stp.refl s Out.refl (.inr (.inr ⟨i, v, t, rfl, e1, e, .nil⟩)) hq⟩
  · exact hq.elim⟩
def sC (d : D) : SemE := fun env Q _ => Q (.fz d) env
theorem q_const {v : V} {d : D} (h : PE X e (tC v)) (r : ∀ B, Rp X.K B v d) : QE X W [] e (sC d) := ⟨PE_imp h fun σ H Qv ⟨n, ow, env, Q, E, s, hq, k, _⟩ =>
  k v (.fz d) H ow env Stp.refl s Out.refl (Tq.fz_.mpr (r _)) hq⟩
theorem q_int {i : Int} {j} : QE X W [] (.Constant (.int i) j pos) (sC (.int i)) := q_const pe_int fun _ => .int i
theorem q_bl {i : Bool} {j} : QE X W [] (.Constant (.bool i) j pos) (sC (.bl i)) := q_const pe_bl fun _ => .bl i
theorem q_non {j} : QE X W [] (.Constant .none j pos) (sC .non) := q_const pe_non fun _ => .non
theorem q_str {x : Str} {j} : QE X W [] (.Constant (.str x) j pos) (sC (.str x)) := q_const pe_str fun _ => .str x
def sFzN (i : Nat) : SemE := fun env Q _ => match env[i]? with
  | some (some t) => Q (.fz t.d) (env.set i (some (.fz t.d)))
  | _ => False
theorem q_fzn (i : Nat) {x : Str} (hN : X.N[i]? = some x := by rfl) (hv : Vis X.env.scope x := by first | exact Or.inl rfl | exact Or.inr (Or.inl rfl) | exact Or.inr (Or.inr rfl)) (hd : (x == ("__debug__" : Str)) = false := by decide)
    (hcd : (x == ("__classdict__" : Str)) = false := by decide) : QE X W [i] (.Name x pos) (sFzN i) := ⟨PE_imp (pe_var (i := i) hN hv hd hcd) fun σ H Qv ⟨n, ow, env, Q, E, s, hq, k, _⟩ => by
  unfold sFzN at hq
  split at hq
  · rename_i t e
    obtain ⟨v, e1, r⟩ := s.at_ i t e
    have y : Stp [i] n H ow H (Ow.mv ow (.sl i) .base) := Stp.mv (not_sl (by simp))
    have fr := r.frz (by exact fun z => nomatch z)
    have hi : i < env.length := (List.getElem?_eq_some_iff.mp e).1
    refine ⟨v, e1, k v (.fz t.d) H _ _ y (s.stp y (Out.set1) fun j u hj e' => ?_) Out.set1 (Tq.fz_.mpr fr) hq⟩
    have ej : j = i := by simpa using hj
    subst ej
    rw [List.getElem?_set_self hi] at e'
    cases e'
    exact ⟨v, e1, Tq.fz_.mpr fr⟩
  · exact hq.elim⟩
def sMvN (i : Nat) : SemE := fun env Q _ => match env[i]? with
  | some (some t) => Q t (env.set i none)
  | _ => False
theorem q_mvn (i : Nat) {x : Str} (hN : X.N[i]? = some x := by rfl) (hv : Vis X.env.scope x := by first | exact Or.inl rfl | exact Or.inr (Or.inl rfl) | exact Or.inr (Or.inr rfl)) (hd : (x == ("__debug__" : Str)) = false := by decide)
    (hcd : (x == ("__classdict__" : Str)) = false := by decide) : QE X W [i] (.Name x pos) (sMvN i) := ⟨PE_imp (pe_var (i := i) hN hv hd hcd) fun σ H Qv ⟨n, ow, env, Q, E, s, hq, k, _⟩ => by
  unfold sMvN at hq
  split at hq
  · rename_i t e
    obtain ⟨v, e1, r⟩ := s.at_ i t e
    have y : Stp [i] n H ow H (Ow.mv ow (.sl i) (.tm n)) := Stp.mv (not_sl (by simp))
    have hi : i < env.length := (List.getElem?_eq_some_iff.mp e).1
    refine ⟨v, e1, k v t H _ _ y (s.stp y (Out.set1) fun j u hj e' => ?_) Out.set1 (r.mv (fun z => nomatch z)) hq⟩
    have ej : j = i := by simpa using hj
    subst ej
    rw [List.getElem?_set_self hi] at e'
    cases e'
  · exact hq.elim⟩

theorem two {K : PySem.W.Frag} {σ : L2.St} {H : Hp} {n : Nat} {ow : Ow} {env : Env} {R : T → T → Env → Prop} {E : XQ} {Qv : V → V → Hp → Prop} (hr : okR ra Mb = true) (s : StOk K H ow σ env) (hq : pa env (fun t _ env1 => pb env1 (fun u _ env2 => R t u env2) E) E)
    (k : ∀ x y t u H' ow' env', Stp (Ma ++ Mb) n H ow H' ow' → StOk K H' ow' σ env' → Out (Ma ++ Mb) env env' → Ro K H' ow' x t → Ro K H' ow' y u → R t u env' → Qv x y H') (x : Xk K W (Ma ++ Mb) σ H n ow env E) :
    tP K W Ma ra pa σ H fun x H1 => tP K W Mb rb pb σ H1 fun y H2 => Qv x y H2 := by
  refine ⟨n, ow, env, _, E, s, hq, fun v t pt H1 ow1 env1 y1 s1 o1 r1 q1 => ?_, fun r d H' ow' env' y s' o => x r d H' ow' env' (y.mono subl (Nat.le_refl _)) s' (o.mono subl)⟩
  refine ⟨n + 1, ow1, env1, _, E, s1, q1, fun w u pu H2 ow2 env2 y2 s2 o2 r2 q2 => ?_, x.step y1 o1 subl subr (Nat.le_refl _) (Nat.le_succ _)⟩
  exact k v w t u H2 ow2 env2 (y1.trans y2 subl subr (Nat.le_refl _) (Nat.le_succ _)) s2 (o1.trans o2 subl subr) ((r1.stp y2 o2 hr (Nat.lt_succ_self _)).ro s2) (r2.ro s2) q2
end
def Op2 (K : PySem.W.Frag) (r : R2) (g : T → T → (T → Prop) → Prop) : Prop := ∀ (H : Hp) (ow : Ow) (n : Nat) (x y : V) (t u : T) (Q : T → Prop) (Qv : VK), Ro K H ow x t → Ro K H ow y u → g t u Q →
  (∀ v w H' ow', Stp [] n H ow H' ow' → Tq K H' ow' (.tm n) v w → Q w → Qv v H') → r x y H Qv
def Op1 (K : PySem.W.Frag) (r : V → Hp → VK → Prop) (g : T → (T → Prop) → Prop) : Prop := ∀ (H : Hp) (ow : Ow) (n : Nat) (x : V) (t : T) (Q : T → Prop) (Qv : VK), Ro K H ow x t → g t Q →
  (∀ v w H' ow', Stp [] n H ow H' ow' → Tq K H' ow' (.tm n) v w → Q w → Qv v H') → r x H Qv
def s2 (pa pb : SemP) (g : T → T → (T → Prop) → Prop) : SemE := fun env Q E => pa env (fun t _ env1 => pb env1 (fun u _ env2 => g t u fun w => Q w env2) E) E
def s1 (pa : SemP) (g : T → (T → Prop) → Prop) : SemE := fun env Q E => pa env (fun t _ env1 => g t fun w => Q w env1) E
section
variable {X : Cx} {W : WX} {M Ma Mb : List Nat} {e a b : Expr} {pa pb : SemP} {ra rb root : Option Nat} {pos : Pos}
theorem op2_run {K : PySem.W.Frag} {r : R2} {g : T → T → (T → Prop) → Prop} (hg : Op2 K r g) (hr : okR ra Mb = true) {σ : L2.St} {H : Hp} {Qv : VK} (h : tQ K W (Ma ++ Mb) (s2 pa pb g) σ H Qv) : tOp r (tP K W Ma ra pa) (tP K W Mb rb pb) σ H Qv := by
  obtain ⟨n, ow, env, Q, E, s, hq, k, x⟩ := h
  refine two (R := fun t u env2 => g t u fun w => Q w env2) (E := E) (Qv := fun x y H2 => r x y H2 Qv) hr s hq (fun x' y t u H' ow' env' y1 s' o r1 r2 q => ?_) x
  refine hg H' ow' n x' y t u _ Qv r1 r2 q fun v w H2 ow2 y2 r3 q3 => ?_
  exact k v w H2 ow2 env' (y1.trans y2 (fun _ h => h) nilsub (Nat.le_refl _) (Nat.le_refl _)) (s'.stp0 y2) o r3 q3
theorem q_op {op : Operator} {r : R2} {g : T → T → (T → Prop) → Prop} (ho : OpR X (binaryOp op) r) (hg : Op2 X.K r g) (ha : QP X W Ma ra a pa) (hb : QP X W Mb rb b pb) (hr : okR ra Mb = true := by decide) : QE X W (Ma ++ Mb) (.BinOp a op b pos) (s2 pa pb g) :=
  ⟨PE_imp (pe_op ho ha.run hb.run) fun _ _ _ h => op2_run hg hr h⟩
theorem q_cmp {op : CmpOp} {r : R2} {g : T → T → (T → Prop) → Prop} (ho : OpR X (compareOp op) r) (hg : Op2 X.K r g) (ha : QP X W Ma ra a pa) (hb : QP X W Mb rb b pb) (hm : behindInMarks op b = false) (hr : okR ra Mb = true := by decide) : QE X W (Ma ++ Mb) (.Compare a [op] [b] pos) (s2 pa pb g) :=
  ⟨PE_imp (pe_cmpR ho ha.run hb.run hm) fun _ _ _ h => op2_run hg hr h⟩
theorem q_ixR {r : R2} {g : T → T → (T → Prop) → Prop} (ho : IxR X r) (hg : Op2 X.K r g) (ha : QP X W Ma ra a pa) (hb : QP X W Mb rb b pb) (hs : PlainIx b) (hr : okR ra Mb = true := by decide) : QE X W (Ma ++ Mb) (.Subscript a b pos) (s2 pa pb g) :=
  ⟨PE_imp (pe_ix ho ha.run hb.run hs) fun _ _ _ h => op2_run hg hr h⟩
end
end QV

set_option Elab.async false
set_option linter.all false
set_option maxRecDepth 100000
set_option maxHeartbeats 2000000
namespace QV
open PySem L2

mutual
def D.py : D → PyData
  | .non => .none
  | .bl b => .bool b
  | .int i => .int i
  | .str x => .str x
  | .nd .lst ds => .list (Dspy ds)
  | .nd .tup ds => .tuple (Dspy ds)
  | _ => .none
def Dspy : List D → List PyData
  | [] => []
  | d :: ds => D.py d :: Dspy ds
end
mutual
def D.pl : Nat → D → Bool
  | _, .non => true
  | _, .bl _ => true
  | _, .int _ => true
  | _, .str x => PyData.strOk x
  | 0, .nd _ _ => false
  | n + 1, .nd .lst ds => Dspl n ds
  | n + 1, .nd .tup ds => Dspl n ds
  | _, _ => false
def Dspl : Nat → List D → Bool
  | _, [] => true
  | n, d :: ds => D.pl n d && Dspl n ds
end
mutual
def eqD : D → D → Bool
  | .non, .non => true
  | .bl a, .bl b => decide (a = b)
  | .bl a, .int j => decide ((if a then 1 else 0) = j)
  | .int i, .bl b => decide (i = if b then 1 else 0)
  | .int i, .int j => decide (i = j)
  | .str x, .str y => decide (x = y)
  | .nd .lst xs, .nd .lst ys => eqDs xs ys
  | .nd .tup xs, .nd .tup ys => eqDs xs ys
  | _, _ => false
def eqDs : List D → List D → Bool
  | [], [] => true
  | x :: xs, y :: ys => eqD x y && eqDs xs ys
  | _, _ => false
end
mutual
theorem D.pl_lay : ∀ {n : Nat} (d : D), d.pl n = true → d.py.canLay0 = true ∧ d.py.depth ≤ n
  | n, .non, _ => ⟨rfl, by simp [D.py, PyData.depth]⟩
  | n, .bl b, _ => ⟨rfl, by simp [D.py, PyData.depth]⟩
  | n, .int i, _ => ⟨rfl, by simp [D.py, PyData.depth]⟩
  | n, .str x, h => ⟨by simpa [D.py, PyData.canLay0, D.pl] using h, by simp [D.py, PyData.depth]⟩
  | 0, .scr _, h => by simp [D.pl] at h
  | n + 1, .scr _, h => by simp [D.pl] at h
  | 0, .nd _ _, h => by simp [D.pl] at h
  | n + 1, .nd .lst ds, h => by
    have q := Dspl_lay (n := n) ds (by simpa [D.pl] using h)
    exact ⟨by simpa [D.py, PyData.canLay0] using q.1, by simpa [D.py, PyData.depth] using q.2⟩
  | n + 1, .nd .tup ds, h => by
    have q := Dspl_lay (n := n) ds (by simpa [D.pl] using h)
    exact ⟨by simpa [D.py, PyData.canLay0] using q.1, by simpa [D.py, PyData.depth] using q.2⟩
  | n + 1, .nd (.dK _) _, h => by simp [D.pl] at h
  | n + 1, .nd (.dT _) _, h => by simp [D.pl] at h
  | n + 1, .nd (.lkT _ _) _, h => by simp [D.pl] at h
  | n + 1, .nd (.lsA _) _, h => by simp [D.pl] at h
  | n + 1, .nd (.ins _ _) _, h => by simp [D.pl] at h
theorem Dspl_lay : ∀ {n : Nat} (ds : List D), Dspl n ds = true → PyData.canLayAll0 (Dspy ds) = true ∧ PyData.depthAll (Dspy ds) ≤ n
  | n, [], _ => ⟨by simp [Dspy, PyData.canLayAll0], by simp [Dspy, PyData.depthAll]⟩
  | n, d :: ds, h => by
    have h' : D.pl n d = true ∧ Dspl n ds = true := by simpa [Dspl] using h
    have q1 := D.pl_lay d h'.1
    have q2 := Dspl_lay ds h'.2
    refine ⟨by simp [Dspy, PyData.canLayAll0, q1.1, q2.1], ?_⟩
    have := q1.2
    have := q2.2
    simp only [Dspy, PyData.depthAll]
    omega
end
theorem D.pl_shaped {n : Nat} {d : D} (h : d.pl n = true) (hn : n ≤ 64) : SeqAt.shaped d.py = true := by
  have q := D.pl_lay d h
  unfold SeqAt.shaped
  rw [q.1, decide_eq_true (Nat.le_trans q.2 hn)]
  rfl
mutual
theorem eqD_py : ∀ {n m : Nat} (d e : D), d.pl n = true → e.pl m = true → eqD d e = PyData.eqv d.py e.py
  | n, m, .non, .non, _, _ => by simp [eqD, D.py, PyData.eqv]
  | n, m, .non, .bl _, _, _ => by simp [eqD, D.py, PyData.eqv]
  | n, m, .non, .int _, _, _ => by simp [eqD, D.py, PyData.eqv]
  | n, m, .non, .str _, _, _ => by simp [eqD, D.py, PyData.eqv]
  | n, m, .bl _, .non, _, _ => by simp [eqD, D.py, PyData.eqv]
  | n, m, .bl a, .bl b, _, _ => by simp only [eqD, D.py, PyData.eqv]; cases a <;> cases b <;> rfl
  | n, m, .bl a, .int j, _, _ => by simp only [eqD, D.py, PyData.eqv]; rw [Bool.beq_eq_decide_eq]
  | n, m, .bl _, .str _, _, _ => by simp [eqD, D.py, PyData.eqv]
  | n, m, .int _, .non, _, _ => by simp [eqD, D.py, PyData.eqv]
  | n, m, .int i, .bl b, _, _ => by simp only [eqD, D.py, PyData.eqv]; rw [Bool.beq_eq_decide_eq]
  | n, m, .int i, .int j, _, _ => by simp only [eqD, D.py, PyData.eqv]; rw [Bool.beq_eq_decide_eq]
  | n, m, .int _, .str _, _, _ => by simp [eqD, D.py, PyData.eqv]
  | n, m, .str _, .non, _, _ => by simp [eqD, D.py, PyData.eqv]
  | n, m, .str _, .bl _, _, _ => by simp [eqD, D.py, PyData.eqv]
  | n, m, .str _, .int _, _, _ => by simp [eqD, D.py, PyData.eqv]
  | n, m, .str x, .str y, _, _ => by simp only [eqD, D.py, PyData.eqv]; rw [Bool.beq_eq_decide_eq]
  | n + 1, m + 1, .nd .lst xs, .nd .lst ys, h, k => by simpa [eqD, D.py, PyData.eqv] using eqDs_py xs ys (by simpa [D.pl] using h) (by simpa [D.pl] using k)
  | n + 1, m + 1, .nd .tup xs, .nd .tup ys, h, k => by simpa [eqD, D.py, PyData.eqv] using eqDs_py xs ys (by simpa [D.pl] using h) (by simpa [D.pl] using k)
  | n + 1, m + 1, .nd .lst xs, .nd .tup ys, _, _ => by simp [eqD, D.py, PyData.eqv]
  | n + 1, m + 1, .nd .tup xs, .nd .lst ys, _, _ => by simp [eqD, D.py, PyData.eqv]
  | n, m, .scr _, _, h, _ => by cases n <;> simp [D.pl] at h
  | n, m, _, .scr _, _, h => by cases m <;> simp [D.pl] at h
  | 0, m, .nd _ _, _, h, _ => by simp [D.pl] at h
  | n, 0, _, .nd _ _, _, h => by simp [D.pl] at h
  | n + 1, m, .nd (.dK _) _, _, h, _ => by simp [D.pl] at h
  | n + 1, m, .nd (.dT _) _, _, h, _ => by simp [D.pl] at h
  | n + 1, m, .nd (.lkT _ _) _, _, h, _ => by simp [D.pl] at h
  | n + 1, m, .nd (.lsA _) _, _, h, _ => by simp [D.pl] at h
  | n + 1, m, .nd (.ins _ _) _, _, h, _ => by simp [D.pl] at h
  | n, m + 1, _, .nd (.dK _) _, _, h => by simp [D.pl] at h
  | n, m + 1, _, .nd (.dT _) _, _, h => by simp [D.pl] at h
  | n, m + 1, _, .nd (.lkT _ _) _, _, h => by simp [D.pl] at h
  | n, m + 1, _, .nd (.lsA _) _, _, h => by simp [D.pl] at h
  | n, m + 1, _, .nd (.ins _ _) _, _, h => by simp [D.pl] at h
  | n + 1, m, .nd .lst _, .non, _, _ => by simp [eqD, D.py, PyData.eqv]
  | n + 1, m, .nd .lst _, .bl _, _, _ => by simp [eqD, D.py, PyData.eqv]
  | n + 1, m, .nd .lst _, .int _, _, _ => by simp [eqD, D.py, PyData.eqv]
  | n + 1, m, .nd .lst _, .str _, _, _ => by simp [eqD, D.py, PyData.eqv]
  | n + 1, m, .nd .tup _, .non, _, _ => by simp [eqD, D.py, PyData.eqv]
  | n + 1, m, .nd .tup _, .bl _, _, _ => by simp [eqD, D.py, PyData.eqv]
  | n + 1, m, .nd .tup _, .int _, _, _ => by simp [eqD, D.py, PyData.eqv]
  | n + 1, m, .nd .tup _, .str _, _, _ => by simp [eqD, D.py, PyData.eqv]
  | n, m + 1, .non, .nd .lst _, _, _ => by simp [eqD, D.py, PyData.eqv]
  | n, m + 1, .bl _, .nd .lst _, _, _ => by simp [eqD, D.py, PyData.eqv]
  | n, m + 1, .int _, .nd .lst _, _, _ => by simp [eqD, D.py, PyData.eqv]
  | n, m + 1, .str _, .nd .lst _, _, _ => by simp [eqD, D.py, PyData.eqv]
  | n, m + 1, .non, .nd .tup _, _, _ => by simp [eqD, D.py, PyData.eqv]
  | n, m + 1, .bl _, .nd .tup _, _, _ => by simp [eqD, D.py, PyData.eqv]
  | n, m + 1, .int _, .nd .tup _, _, _ => by simp [eqD, D.py, PyData.eqv]
  | n, m + 1, .str _, .nd .tup _, _, _ => by simp [eqD, D.py, PyData.eqv]
theorem eqDs_py : ∀ {n m : Nat} (ds es : List D), Dspl n ds = true → Dspl m es = true → eqDs ds es = PyData.eqvAll (Dspy ds) (Dspy es)
  | n, m, [], [], _, _ => by simp [eqDs, Dspy, PyData.eqvAll]
  | n, m, [], _ :: _, _, _ => by simp [eqDs, Dspy, PyData.eqvAll]
  | n, m, _ :: _, [], _, _ => by simp [eqDs, Dspy, PyData.eqvAll]
  | n, m, d :: ds, e :: es, h, k => by
    have h' : D.pl n d = true ∧ Dspl n ds = true := by simpa [Dspl] using h
    have k' : D.pl m e = true ∧ Dspl m es = true := by simpa [Dspl] using k
    simp only [eqDs, Dspy, PyData.eqvAll, eqD_py d e h'.1 k'.1, eqDs_py ds es h'.2 k'.2]
end
section
variable {K : PySem.W.Frag} {H : Hp} {ow : Ow} {B : Hp}
mutual
theorem Rp.dp : ∀ {n : Nat} {v : V} (d : D), Rp K B v d → d.pl n = true → Dp K B v d.py
  | n, _, .non, h, _ => by cases h; exact .non
  | n, _, .bl b, h, _ => by cases h; exact .bl b
  | n, _, .int b, h, _ => by cases h; exact .int b
  | n, _, .str b, h, _ => by cases h; exact .str b
  | 0, _, .scr _, _, h => by simp [D.pl] at h
  | n + 1, _, .scr _, _, h => by simp [D.pl] at h
  | 0, _, .nd _ _, _, h => by simp [D.pl] at h
  | n + 1, _, .nd .lst ds, h, k => by
    cases h with
    | cell _ c r => exact .lst (.inl (.inl c.at_)) (Rps.dp (n := n) ds r (by simpa [D.pl] using k))
  | n + 1, _, .nd .tup ds, h, k => by
    cases h with
    | tup c _ r => exact .tup (sqT_of c) (Rps.dp (n := n) ds r (by simpa [D.pl] using k))
    | cell hn _ _ => exact absurd rfl hn
  | n + 1, _, .nd (.dK _) _, _, h => by simp [D.pl] at h
  | n + 1, _, .nd (.dT _) _, _, h => by simp [D.pl] at h
  | n + 1, _, .nd (.lkT _ _) _, _, h => by simp [D.pl] at h
  | n + 1, _, .nd (.lsA _) _, _, h => by simp [D.pl] at h
  | n + 1, _, .nd (.ins _ _) _, _, h => by simp [D.pl] at h
theorem Rps.dp : ∀ {n : Nat} {vs : List V} (ds : List D), Rps K B vs ds → Dspl n ds = true → DpAll K B vs (Dspy ds)
  | n, _, [], h, _ => by cases h; exact .nil
  | n, _, d :: ds, h, k => by
    cases h with
    | cons r s =>
      have k' : D.pl n d = true ∧ Dspl n ds = true := by simpa [Dspl] using k
      exact .cons (Rp.dp d r k'.1) (Rps.dp ds s k'.2)
end
def shL : T → Option (List D)
  | .fz (.nd .lst ds) => some ds
  | .ow .lst ds => some ds
  | _ => none
def shT : T → Option (List D)
  | .fz (.nd .tup ds) => some ds
  | .ow .tup ds => some ds
  | _ => none
theorem Ro.int {x : V} {i : Int} (h : Ro K H ow x (.fz (.int i))) : x = .int i := by
  have := h.rd; cases this; rfl
theorem Ro.str {x : V} {i : Str} (h : Ro K H ow x (.fz (.str i))) : x = .str i := by
  have := h.rd; cases this; rfl
theorem Ro.bl {x : V} {i : Bool} (h : Ro K H ow x (.fz (.bl i))) : x = .bl i := by
  have := h.rd; cases this; rfl
theorem Ro.non {x : V} (h : Ro K H ow x (.fz .non)) : x = .non := by
  have := h.rd; cases this; rfl
theorem Ro.lst {x : V} {t : T} {ds : List D} (h : Ro K H ow x t) (e : shL t = some ds) : ∃ a vs, x = .ref a ∧ H a = some (.lst vs) ∧ vs.length ≤ sizeLine ∧ Rps K (Bs H ow) vs ds := by
  unfold shL at e
  split at e
  · cases e
    obtain ⟨l, h⟩ := h
    cases Tq.fz_.mp h with
    | cell _ c r => exact ⟨_, _, rfl, bs_same H ow _ _ c.at_, c.sz, r⟩
  · cases e
    obtain ⟨l, S, h⟩ := h
    cases h with
    | ow c _ r => exact ⟨_, _, rfl, c.at_, c.sz, r⟩
  · cases e
theorem Ro.tup {x : V} {t : T} {ds : List D} (h : Ro K H ow x t) (e : shT t = some ds) : ∃ a vs, x = .ref a ∧ SqT K H a vs ∧ vs.length ≤ sizeLine ∧ Rps K (Bs H ow) vs ds := by
  unfold shT at e
  split at e
  · cases e
    obtain ⟨l, h⟩ := h
    cases Tq.fz_.mp h with
    | tup c z r => exact ⟨_, _, rfl, sqT_of (bs_same H ow _ _ c), z, r⟩
    | cell hn _ _ => exact absurd rfl hn
  · cases e
    obtain ⟨l, S, h⟩ := h
    cases h with
    | ow c _ r => exact ⟨_, _, rfl, .inl (.inl c.at_), c.sz, r⟩
  · cases e
end

def intG (C : Int → Int → Prop) (g : Int → Int → D) (t u : T) (Q : T → Prop) : Prop := match t, u with
  | .fz (.int i), .fz (.int j) => C i j ∧ Q (.fz (g i j))
  | _, _ => False
def int0G (g : Int → Int → D) (t u : T) (Q : T → Prop) : Prop := match t, u with
  | .fz (.int i), .fz (.int j) => Q (.fz (g i j))
  | _, _ => False
section
variable {K : PySem.W.Frag}
theorem g_int {C : Int → Int → Prop} {f : Int → Int → V} {g : Int → Int → D} (hf : ∀ B i j, Rp K B (f i j) (g i j)) : Op2 K (rI C f) (intG C g) := by
  intro H ow n x y t u Q Qv rx ry h k
  unfold intG at h
  split at h
  · exact ⟨_, _, rx.int, ry.int, h.1, k _ _ H ow Stp.refl (Tq.fz_.mpr (hf _ _ _)) h.2⟩
  · exact h.elim
theorem g_int0 {f : Int → Int → V} {g : Int → Int → D} (hf : ∀ B i j, Rp K B (f i j) (g i j)) : Op2 K (rI0 f) (int0G g) := by
  intro H ow n x y t u Q Qv rx ry h k
  unfold int0G at h
  split at h
  · exact ⟨_, _, rx.int, ry.int, k _ _ H ow Stp.refl (Tq.fz_.mpr (hf _ _ _)) h⟩
  · exact h.elim
def addG (t u : T) (Q : T → Prop) : Prop := match t, u with
  | .fz (.int i), .fz (.int j) => Q (.fz (.int (i + j)))
  | .fz (.str a), .fz (.str b) => a.length + b.length ≤ sizeLine ∧ Q (.fz (.str (a ++ b)))
  | .fz (.nd .tup ds), .fz (.nd .tup es) => ds.length + es.length ≤ sizeLine ∧ Q (.fz (.nd .tup (ds ++ es)))
  | .fz (.nd .lst ds), .fz (.nd .lst es) => ds.length + es.length ≤ sizeLine ∧ Q (.ow .lst (ds ++ es))
  | .fz (.nd .lst ds), .ow .lst es => ds.length + es.length ≤ sizeLine ∧ Q (.ow .lst (ds ++ es))
  | .ow .lst ds, .fz (.nd .lst es) => ds.length + es.length ≤ sizeLine ∧ Q (.ow .lst (ds ++ es))
  | .ow .lst ds, .ow .lst es => ds.length + es.length ≤ sizeLine ∧ Q (.ow .lst (ds ++ es))
  | _, _ => False
def rAddAll (K : PySem.W.Frag) : R2 := fun x y H Q => rI0 (fun i j => .int (i + j)) x y H Q ∨ (∃ i j, x = .str i ∧ y = .str j ∧ i.length + j.length ≤ sizeLine ∧ Q (.str (i ++ j)) H) ∨ rCatA K x y H Q ∨ rCat x y H Q
theorem op_addAll {X : Cx} : OpR X (binaryOp .Add) (rAddAll X.K) := op_add.or (op_add_str.or (op_catA.or op_cat))
theorem cat_of {H : Hp} {ow : Ow} {n : Nat} {x y : V} {t u : T} {ds es : List D} {Q : T → Prop} {Qv : VK} (rx : Ro K H ow x t) (ry : Ro K H ow y u) (ht : shL t = some ds) (hu : shL u = some es) (hz : ds.length + es.length ≤ sizeLine) (q : Q (.ow .lst (ds ++ es)))
    (k : ∀ v w H' ow', Stp [] n H ow H' ow' → Tq K H' ow' (.tm n) v w → Q w → Qv v H') : rCat x y H Qv := by
  obtain ⟨a, vs, e1, h1, z1, r1⟩ := rx.lst ht
  obtain ⟨b, ws, e2, h2, z2, r2⟩ := ry.lst hu
  have l1 := r1.len
  have l2 := r2.len
  refine ⟨a, b, vs, ws, e1, e2, h1, h2, by omega, fun p hp => k _ _ _ (Ow.put ow p (.tm n)) (Stp.new hp) (Tq.newL hp (by rw [List.length_append]; omega) (r1.app r2)) q⟩
theorem g_add : Op2 K (rAddAll K) addG := by
  intro H ow n x y t u Q Qv rx ry h k
  unfold addG at h
  split at h
  · exact .inl ⟨_, _, rx.int, ry.int, k _ _ H ow Stp.refl (Tq.fz_.mpr (.int _)) h⟩
  · exact .inr (.inl ⟨_, _, rx.str, ry.str, h.1, k _ _ H ow Stp.refl (Tq.fz_.mpr (.str _)) h.2⟩)
  · rename_i ds es
    obtain ⟨a, vs, e1, h1, z1, r1⟩ := rx.tup rfl
    obtain ⟨b, ws, e2, h2, z2, r2⟩ := ry.tup rfl
    have l1 := r1.len
    have l2 := r2.len
    refine .inr (.inr (.inl ⟨a, b, vs, ws, e1, e2, h1, h2, by omega, fun z => ?_, fun _ z => ?_, fun _ _ p hp => ?_⟩))
    · subst z
      cases ds with
      | cons _ _ => simp at l1
      | nil =>
        have h3 := h.2
        rw [List.nil_append] at h3
        subst e2
        exact k _ _ H ow Stp.refl (by obtain ⟨l, ry⟩ := ry; exact Tq.fz_.mpr (Tq.fz_.mp ry)) h3
    · subst z
      cases es with
      | cons _ _ => simp at l2
      | nil =>
        have h3 := h.2
        rw [List.append_nil] at h3
        subst e1
        exact k _ _ H ow Stp.refl (by obtain ⟨l, rx⟩ := rx; exact Tq.fz_.mpr (Tq.fz_.mp rx)) h3
    · have y1 : Stp [] n H ow (upd H p (.tup (vs ++ ws))) (Ow.put ow p (.tm n)) := Stp.new hp
      have q1 := Tq.newT (K := K) (l := .tm n) (vs := vs ++ ws) hp (by rw [List.length_append]; omega) (r1.app r2)
      have y2 : Stp [] n (upd H p (.tup (vs ++ ws))) (Ow.put ow p (.tm n)) (upd H p (.tup (vs ++ ws))) (Ow.mv (Ow.put ow p (.tm n)) (.tm n) .base) := Stp.mv not_tm
      exact k _ _ _ _ (y1.trans y2 (fun _ h => h) (fun _ h => h) (Nat.le_refl _) (Nat.le_refl _)) (Tq.fz_.mpr (q1.frz fun z => nomatch z)) h.2
  · exact .inr (.inr (.inr (cat_of rx ry rfl rfl h.1 h.2 k)))
  · exact .inr (.inr (.inr (cat_of rx ry rfl rfl h.1 h.2 k)))
  · exact .inr (.inr (.inr (cat_of rx ry rfl rfl h.1 h.2 k)))
  · exact .inr (.inr (.inr (cat_of rx ry rfl rfl h.1 h.2 k)))
  · exact h.elim
end
end QV

set_option Elab.async false
set_option linter.all false
set_option maxRecDepth 100000
set_option maxHeartbeats 2000000
namespace QV
open PySem L2

def scD : D → D → Bool
  | .non, .non => true | .non, .int _ => true | .int _, .non => true | .non, .bl _ => true | .bl _, .non => true | .non, .str _ => true | .str _, .non => true
  | .int _, .int _ => true | .bl _, .bl _ => true | .str _, .str _ => true
  | .int _, .str _ => true | .str _, .int _ => true | .bl _, .str _ => true | .str _, .bl _ => true
  | _, _ => false
def flD : D → Bool
  | .non => true
  | .bl _ => true
  | .int _ => true
  | .str _ => true
  | _ => false
section
variable {K : PySem.W.Frag} {B : Hp} {x y : V} {d e : D}
theorem sc_eq (rx : Rp K B x d) (ry : Rp K B y e) (h : scD d e = true) : scal x y = true ∧ decide (x = y) = eqD d e := by
  cases rx <;> cases ry <;> simp [scD] at h <;> simp [scal, eqD]
theorem fl_V (rx : Rp K B x d) (h : flD d = true) : flatV x = true := by
  cases rx <;> simp [flD] at h <;> rfl
theorem fl_eq (rx : Rp K B x d) (ry : Rp K B y e) (h : flD d = true) (h' : flD e = true) : eqV x y = eqD d e := by
  cases rx <;> cases ry <;> simp [flD] at h h' <;> simp [eqV, eqD, Bool.beq_eq_decide_eq]
theorem fl_all : ∀ {vs : List V} {ds : List D}, Rps K B vs ds → ds.all flD = true → vs.all flatV = true
  | _, _, .nil, _ => rfl
  | _, _, .cons r s, h => by
    rw [List.all_cons, Bool.and_eq_true] at h
    rw [List.all_cons, fl_V r h.1, fl_all s h.2]
    rfl
theorem fl_any (rx : Rp K B x d) (h : flD d = true) : ∀ {vs : List V} {ds : List D}, Rps K B vs ds → ds.all flD = true → inV x vs = ds.any fun z => eqD z d
  | _, _, .nil, _ => rfl
  | _, _, .cons r s, k => by
    rw [List.all_cons, Bool.and_eq_true] at k
    show ((eqV _ x) || inV x _) = _
    rw [List.any_cons, fl_eq r rx k.1 h, fl_any rx h s k.2]
theorem pl_any {n m : Nat} (h : d.pl n = true) : ∀ ds : List D, Dspl m ds = true → ((Dspy ds).any fun z => PyData.eqv z d.py) = ds.any fun z => eqD z d
  | [], _ => rfl
  | e :: ds, k => by
    have k' : D.pl m e = true ∧ Dspl m ds = true := by simpa [Dspl] using k
    show (PyData.eqv e.py d.py || (Dspy ds).any fun z => PyData.eqv z d.py) = (eqD e d || ds.any fun z => eqD z d)
    rw [eqD_py e d k'.1 h, pl_any h ds k'.2]
end
def eqG (neg : Bool) (t u : T) (Q : T → Prop) : Prop := (scD t.d u.d = true ∨ (t.d.pl 64 = true ∧ u.d.pl 64 = true)) ∧ Q (.fz (.bl (if neg then !eqD t.d u.d else eqD t.d u.d)))
def inG (neg : Bool) (t u : T) (Q : T → Prop) : Prop := match u with
  | .fz (.nd .lst es) => ((flD t.d && es.all flD) = true ∨ (t.d.pl 63 = true ∧ Dspl 63 es = true)) ∧ Q (.fz (.bl (if neg then !es.any (fun z => eqD z t.d) else es.any fun z => eqD z t.d)))
  | .ow .lst es => ((flD t.d && es.all flD) = true ∨ (t.d.pl 63 = true ∧ Dspl 63 es = true)) ∧ Q (.fz (.bl (if neg then !es.any (fun z => eqD z t.d) else es.any fun z => eqD z t.d)))
  | .fz (.nd .tup es) => (flD t.d && es.all flD) = true ∧ Q (.fz (.bl (if neg then !es.any (fun z => eqD z t.d) else es.any fun z => eqD z t.d)))
  | .ow .tup es => (flD t.d && es.all flD) = true ∧ Q (.fz (.bl (if neg then !es.any (fun z => eqD z t.d) else es.any fun z => eqD z t.d)))
  | .fz (.str z) => ∃ c, t = .fz (.str ⟨#[c]⟩) ∧ Q (.fz (.bl (if neg then !decide (c ∈ z.cps.toList) else decide (c ∈ z.cps.toList))))
  | _ => False
def nonD : D → Bool
  | .non => true
  | _ => false
def isNG (neg : Bool) (t u : T) (Q : T → Prop) : Prop := match u with
  | .fz .non => Q (.fz (.bl (if neg then !nonD t.d else nonD t.d)))
  | _ => False
section
variable {K : PySem.W.Frag} {X : Cx}
def rEqAll (K : PySem.W.Frag) : R2 := fun x y H Q => rEq x y H Q ∨ rEqD K x y H Q
def rNeAll (K : PySem.W.Frag) : R2 := fun x y H Q => rNe x y H Q ∨ rNeD K x y H Q
theorem op_eqAll (hu : X.A.units + 64 < cLine) : OpR X (compareOp .Eq) (rEqAll X.K) := op_eq.or (op_eqD hu)
theorem op_neAll (hu : X.A.units + 64 < cLine) : OpR X (compareOp .NotEq) (rNeAll X.K) := op_ne.or (op_neD hu)
theorem g_eq : Op2 K (rEqAll K) (eqG false) := by
  intro H ow n x y t u Q Qv rx ry h k
  obtain ⟨h | h, q⟩ := h
  · obtain ⟨e1, e2⟩ := sc_eq rx.rd ry.rd h
    exact .inl ⟨e1, k _ _ H ow Stp.refl (Tq.fz_.mpr (by rw [e2]; exact .bl _)) q⟩
  · exact .inr ⟨_, _, rx.rd.dp _ h.1, ry.rd.dp _ h.2, D.pl_shaped h.1 (Nat.le_refl _), D.pl_shaped h.2 (Nat.le_refl _), k _ _ H ow Stp.refl (Tq.fz_.mpr (by rw [← eqD_py _ _ h.1 h.2]; exact .bl _)) q⟩
theorem g_ne : Op2 K (rNeAll K) (eqG true) := by
  intro H ow n x y t u Q Qv rx ry h k
  obtain ⟨h | h, q⟩ := h
  · obtain ⟨e1, e2⟩ := sc_eq rx.rd ry.rd h
    exact .inl ⟨e1, k _ _ H ow Stp.refl (Tq.fz_.mpr (by rw [e2]; exact .bl _)) q⟩
  · exact .inr ⟨_, _, rx.rd.dp _ h.1, ry.rd.dp _ h.2, D.pl_shaped h.1 (Nat.le_refl _), D.pl_shaped h.2 (Nat.le_refl _), k _ _ H ow Stp.refl (Tq.fz_.mpr (by rw [← eqD_py _ _ h.1 h.2]; exact .bl _)) q⟩
def rInAll (K : PySem.W.Frag) (neg : Bool) : R2 := fun x y H Q => rIn K neg x y H Q ∨ (∃ d ds, Dp K H x d ∧ Dp K H y (.list ds) ∧ SeqAt.shaped d = true ∧ SeqAt.shaped (.list ds) = true ∧ Q (.bl (if neg then !ds.any (fun z => PyData.eqv z d) else ds.any fun z => PyData.eqv z d)) H) ∨
  (∃ (c : Nat) (z : Str), x = .str ⟨#[c]⟩ ∧ y = .str z ∧ Q (.bl (if neg then !decide (c ∈ z.cps.toList) else decide (c ∈ z.cps.toList))) H)
theorem g_in (neg : Bool) : Op2 K (rInAll K neg) (inG neg) := by
  intro H ow n x y t u Q Qv rx ry h k
  have lst : ∀ {es : List D}, shL u = some es → u.d = .nd .lst es → ((flD t.d && es.all flD) = true ∨ (t.d.pl 63 = true ∧ Dspl 63 es = true)) ∧ Q (.fz (.bl (if neg then !es.any (fun z => eqD z t.d) else es.any fun z => eqD z t.d))) → rInAll K neg x y H Qv := fun {es} e1 e2 hq => by
    obtain ⟨a, vs, rfl, h1, z1, r1⟩ := ry.lst e1
    obtain ⟨hc | hc, q⟩ := hq
    · rw [Bool.and_eq_true] at hc
      refine .inl ⟨a, vs, rfl, .inl (.inl (.inl h1)), fl_V rx.rd hc.1, fl_all r1 hc.2, k _ _ H ow Stp.refl (Tq.fz_.mpr ?_) q⟩
      rw [fl_any rx.rd hc.1 (r1.mono (bs_same H ow)) hc.2]
      exact .bl _
    · have p1 : (D.nd .lst es).pl 64 = true := by simpa [D.pl] using hc.2
      have hy := ry.rd
      rw [e2] at hy
      have d1 := hy.dp _ p1
      have s1 := D.pl_shaped p1 (Nat.le_refl _)
      refine .inr (.inl ⟨t.d.py, Dspy es, rx.rd.dp _ hc.1, by simpa [D.py] using d1, D.pl_shaped hc.1 (by decide), by simpa [D.py] using s1, k _ _ H ow Stp.refl (Tq.fz_.mpr ?_) q⟩)
      rw [pl_any hc.1 es hc.2]
      exact .bl _
  have tup : ∀ {es : List D}, shT u = some es → (flD t.d && es.all flD) = true ∧ Q (.fz (.bl (if neg then !es.any (fun z => eqD z t.d) else es.any fun z => eqD z t.d))) → rInAll K neg x y H Qv := fun {es} e1 hq => by
    obtain ⟨a, vs, rfl, h1, z1, r1⟩ := ry.tup e1
    obtain ⟨hc, q⟩ := hq
    rw [Bool.and_eq_true] at hc
    refine .inl ⟨a, vs, rfl, .inr h1, fl_V rx.rd hc.1, fl_all r1 hc.2, k _ _ H ow Stp.refl (Tq.fz_.mpr ?_) q⟩
    rw [fl_any rx.rd hc.1 (r1.mono (bs_same H ow)) hc.2]
    exact .bl _
  unfold inG at h
  split at h
  · exact lst rfl rfl h
  · exact lst rfl rfl h
  · exact tup rfl h
  · exact tup rfl h
  · obtain ⟨c, rfl, h⟩ := h
    exact .inr (.inr ⟨_, _, rx.str, ry.str, k _ _ H ow Stp.refl (Tq.fz_.mpr (.bl _)) h⟩)
  · exact h.elim
theorem op_inAll (hu : X.A.units + 65 < cLine) : OpR X (compareOp .In) (rInAll X.K false) :=
  op_in_seq.or (OpR.or (op_inD hu) fun pins s σ H x y v u Q I rx ry ⟨c, z, e1, e2, q⟩ => op_in_sign pins s σ H x y v u Q I rx ry ⟨c, z, e1, e2, q⟩)
theorem op_niAll (hu : X.A.units + 65 < cLine) : OpR X (compareOp .NotIn) (rInAll X.K true) :=
  op_notIn_seq.or (OpR.or (op_notInD hu) fun pins s σ H x y v u Q I rx ry ⟨c, z, e1, e2, q⟩ => op_notIn_sign pins s σ H x y v u Q I rx ry ⟨c, z, e1, e2, q⟩)
theorem non_iff {B : Hp} {x : V} {d : D} (r : Rp K B x d) : decide (x = .non) = nonD d := by
  cases r <;> simp [nonD]
theorem g_isN : Op2 K (fun x y H Q => y = .non ∧ Q (.bl (decide (x = .non))) H) (isNG false) := by
  intro H ow n x y t u Q Qv rx ry h k
  unfold isNG at h
  split at h
  · refine ⟨ry.non, k _ _ H ow Stp.refl (Tq.fz_.mpr (.bl _)) ?_⟩
    rw [non_iff rx.rd]
    exact h
  · exact h.elim
def ixG (t u : T) (Q : T → Prop) : Prop := match u with
  | .fz (.int i) => match t with
    | .fz (.nd .lst ds) => ∃ d, atI ds i = some d ∧ Q (.fz d)
    | .ow .lst ds => ∃ d, atI ds i = some d ∧ Q (.fz d)
    | .fz (.nd .tup ds) => ∃ d, atI ds i = some d ∧ Q (.fz d)
    | .ow .tup ds => ∃ d, atI ds i = some d ∧ Q (.fz d)
    | .fz (.str z) => z.length ≤ sizeLine ∧ ∃ c, atI z.cps.toList i = some c ∧ Q (.fz (.str ⟨#[c]⟩))
    | _ => False
  | _ => False
theorem Rps.atI {B : Hp} {vs : List V} {ds : List D} {i : Int} {d : D} (r : Rps K B vs ds) (h : L2.atI ds i = some d) : ∃ v, L2.atI vs i = some v ∧ Rp K B v d := by
  unfold L2.atI at h ⊢
  rw [r.len]
  cases e : ixN ds.length i with
  | none => rw [e] at h; cases h
  | some j =>
    rw [e] at h
    obtain ⟨v, h1, h2⟩ := r.get (i := j) (d := d) h
    exact ⟨v, h1, h2⟩
theorem g_ix : Op2 K (rIx K) ixG := by
  intro H ow n x y t u Q Qv rx ry h k
  have lst : ∀ {i : Int} {ds : List D}, y = .int i → shL t = some ds → (∃ d, atI ds i = some d ∧ Q (.fz d)) → rIx K x y H Qv := fun {i ds} ei e hd => by
    obtain ⟨d, hd, q⟩ := hd
    obtain ⟨a, vs, rfl, h1, z1, r1⟩ := rx.lst e
    obtain ⟨v, e1, r2⟩ := r1.atI hd
    exact .inl ⟨a, vs, i, v, rfl, ei, .inl (.inl h1), e1, k _ _ H ow Stp.refl (Tq.fz_.mpr r2) q⟩
  have tup : ∀ {i : Int} {ds : List D}, y = .int i → shT t = some ds → (∃ d, atI ds i = some d ∧ Q (.fz d)) → rIx K x y H Qv := fun {i ds} ei e hd => by
    obtain ⟨d, hd, q⟩ := hd
    obtain ⟨a, vs, rfl, h1, z1, r1⟩ := rx.tup e
    obtain ⟨v, e1, r2⟩ := r1.atI hd
    exact .inr (.inl ⟨a, vs, i, v, rfl, ei, h1, e1, k _ _ H ow Stp.refl (Tq.fz_.mpr r2) q⟩)
  unfold ixG at h
  split at h
  · have ei := ry.int
    split at h
    · exact lst ei rfl h
    · exact lst ei rfl h
    · exact tup ei rfl h
    · exact tup ei rfl h
    · obtain ⟨hz, c, hc, q⟩ := h
      exact .inr (.inr ⟨_, _, c, rx.str, ei, hz, hc, k _ _ H ow Stp.refl (Tq.fz_.mpr (.str _)) q⟩)
    · exact h.elim
  · exact h.elim
end

section
variable {X : Cx} {W : WX} {M Ma Mb Mc : List Nat} {e a b c : Expr} {pa pb pc : SemP} {qa qb qc : SemE} {ra rb rc root : Option Nat} {pos : Pos}
theorem q_add (ha : QP X W Ma ra a pa) (hb : QP X W Mb rb b pb) (hr : okR ra Mb = true := by decide) : QE X W (Ma ++ Mb) (.BinOp a .Add b pos) (s2 pa pb addG) := q_op op_addAll g_add ha hb hr
theorem q_sub (ha : QP X W Ma ra a pa) (hb : QP X W Mb rb b pb) (hr : okR ra Mb = true := by decide) : QE X W (Ma ++ Mb) (.BinOp a .Sub b pos) (s2 pa pb (int0G fun i j => .int (i - j))) := q_op op_sub (g_int0 fun _ _ _ => .int _) ha hb hr
theorem q_mul (ha : QP X W Ma ra a pa) (hb : QP X W Mb rb b pb) (hr : okR ra Mb = true := by decide) : QE X W (Ma ++ Mb) (.BinOp a .Mult b pos) (s2 pa pb (intG CMul fun i j => .int (i * j))) := q_op op_mul (g_int fun _ _ _ => .int _) ha hb hr
theorem q_fdiv (ha : QP X W Ma ra a pa) (hb : QP X W Mb rb b pb) (hr : okR ra Mb = true := by decide) : QE X W (Ma ++ Mb) (.BinOp a .FloorDiv b pos) (s2 pa pb (intG CDivW fun i j => .int (i / j))) := q_op op_fdivW (g_int fun _ _ _ => .int _) ha hb hr
theorem q_mod (ha : QP X W Ma ra a pa) (hb : QP X W Mb rb b pb) (hr : okR ra Mb = true := by decide) : QE X W (Ma ++ Mb) (.BinOp a .Mod b pos) (s2 pa pb (intG (fun _ j => 0 < j) fun i j => .int (i % j))) := q_op op_mod (g_int fun _ _ _ => .int _) ha hb hr
theorem q_ix (ha : QP X W Ma ra a pa) (hb : QP X W Mb rb b pb) (hs : PlainIx b := by exact fun _ _ => rfl) (hr : okR ra Mb = true := by decide) : QE X W (Ma ++ Mb) (.Subscript a b pos) (s2 pa pb ixG) := q_ixR ix_seq g_ix ha hb hs hr
theorem q_eq (hu : X.A.units + 65 < cLine) (ha : QP X W Ma ra a pa) (hb : QP X W Mb rb b pb) (hr : okR ra Mb = true := by decide) : QE X W (Ma ++ Mb) (.Compare a [.Eq] [b] pos) (s2 pa pb (eqG false)) := q_cmp (op_eqAll (by omega)) g_eq ha hb (nomark _) hr
theorem q_ne (hu : X.A.units + 65 < cLine) (ha : QP X W Ma ra a pa) (hb : QP X W Mb rb b pb) (hr : okR ra Mb = true := by decide) : QE X W (Ma ++ Mb) (.Compare a [.NotEq] [b] pos) (s2 pa pb (eqG true)) := q_cmp (op_neAll (by omega)) g_ne ha hb (nomark _) hr
theorem q_in (hu : X.A.units + 65 < cLine) (ha : QP X W Ma ra a pa) (hb : QP X W Mb rb b pb) (hr : okR ra Mb = true := by decide) (hm : behindInMarks .In b = false := by rfl) : QE X W (Ma ++ Mb) (.Compare a [.In] [b] pos) (s2 pa pb (inG false)) := q_cmp (op_inAll hu) (g_in false) ha hb hm hr
end
end QV

set_option Elab.async false
set_option linter.all false
set_option maxRecDepth 100000
set_option maxHeartbeats 2000000
namespace QV
open PySem L2

def sT (q : SemE) : SemT := fun env Q E => q env (fun w env' => match w with
  | .fz (.bl b) => Q b env'
  | _ => False) E
def sAnd (qa qb : SemT) : SemT := fun env Q E => qa env (fun c env1 => (c = true → qb env1 Q E) ∧ (c = false → Q false env1)) E
def sOr (qa qb : SemT) : SemT := fun env Q E => qa env (fun c env1 => (c = true → Q true env1) ∧ (c = false → qb env1 Q E)) E
def sAndM (qa qb : SemT) : SemT := fun env Q E => qa env (fun c env1 => ∃ b : Bool, (c = true → qb env1 (fun b' env2 => b' = b ∧ env2 = env1) fun _ _ => False) ∧ Q (c && b) env1) E
def sOrM (qa qb : SemT) : SemT := fun env Q E => qa env (fun c env1 => ∃ b : Bool, (c = false → qb env1 (fun b' env2 => b' = b ∧ env2 = env1) fun _ _ => False) ∧ Q (c || b) env1) E
def sNot (qa : SemT) : SemT := fun env Q E => qa env (fun c env1 => Q (!c) env1) E
def sTV (qa : SemT) : SemE := fun env Q E => qa env (fun c env1 => Q (.fz (.bl c)) env1) E
structure QW (X : Cx) (W : WX) (M : List Nat) (e : Expr) (q : SemT) : Prop where
  run : PW X e (tT X.K W M q)
section
variable {X : Cx} {W : WX} {M Ma Mb Mc : List Nat} {e a b c : Expr} {rest : List Expr} {pa pb pc : SemP} {q qa qb qc : SemE} {ta tb tc : SemT} {ra rb rc root : Option Nat} {pos : Pos}
theorem tT_of {K : PySem.W.Frag} {t : TE} {σ : L2.St} {H : Hp} {Q : Bool → Hp → Prop} (h : tT K W M (sT q) σ H Q) (f : ∀ Qv, tQ K W M q σ H Qv → t σ H Qv) : t σ H fun x H' => ∃ k, x = .bl k ∧ Q k H' := by
  obtain ⟨n, ow, env, Qe, E, s, hq, k, x⟩ := h
  refine f _ ⟨n, ow, env, _, E, s, hq, fun v t' H' ow' env' y1 s' o r z => ?_, x⟩
  split at z
  · exact ⟨_, by have := (Tq.rd r); cases this; rfl, k _ H' ow' env' y1 s' o z⟩
  · exact z.elim
theorem t_val (h : QE X W M e q) (he : ∀ whole, isTrue e X.env whole = (do let v ← whole; standAt e.pos; holding [v] (truthy v)) := by intro _; rfl) : QT X W M e (sT q) :=
  ⟨PT_imp (pt_val h.run he) fun _ _ _ hq => tT_of (t := tQ X.K W M q) hq fun _ z => z⟩
theorem t_cmpR {op : CmpOp} {r : R2} {g : T → T → (T → Prop) → Prop} (ho : OpR X (compareOp op) r) (hg : Op2 X.K r g) (ha : QP X W Ma ra a pa) (hb : QP X W Mb rb b pb) (hm : behindInMarks op b = false) (hr : okR ra Mb = true := by decide) : QT X W (Ma ++ Mb) (.Compare a [op] [b] pos) (sT (s2 pa pb g)) :=
  ⟨PT_imp (pt_cmpR ho ha.run hb.run hm) fun _ _ _ hq => tT_of (t := tOp r _ _) hq fun _ z => op2_run hg hr z⟩
theorem t_lt (ha : QP X W Ma ra a pa) (hb : QP X W Mb rb b pb) (hr : okR ra Mb = true := by decide) : QT X W (Ma ++ Mb) (.Compare a [.Lt] [b] pos) (sT (s2 pa pb (int0G fun i j => .bl (decide (i < j))))) := t_cmpR op_lt (g_int0 fun _ _ _ => .bl _) ha hb (nomark _) hr
theorem t_gt (ha : QP X W Ma ra a pa) (hb : QP X W Mb rb b pb) (hr : okR ra Mb = true := by decide) : QT X W (Ma ++ Mb) (.Compare a [.Gt] [b] pos) (sT (s2 pa pb (int0G fun i j => .bl (decide (j < i))))) := t_cmpR op_gt (g_int0 fun _ _ _ => .bl _) ha hb (nomark _) hr
theorem t_ge (ha : QP X W Ma ra a pa) (hb : QP X W Mb rb b pb) (hr : okR ra Mb = true := by decide) : QT X W (Ma ++ Mb) (.Compare a [.GtE] [b] pos) (sT (s2 pa pb (int0G fun i j => .bl (decide (j ≤ i))))) := t_cmpR op_ge (g_int0 fun _ _ _ => .bl _) ha hb (nomark _) hr
theorem t_eq (hu : X.A.units + 65 < cLine) (ha : QP X W Ma ra a pa) (hb : QP X W Mb rb b pb) (hr : okR ra Mb = true := by decide) : QT X W (Ma ++ Mb) (.Compare a [.Eq] [b] pos) (sT (s2 pa pb (eqG false))) := t_cmpR (op_eqAll (by omega)) g_eq ha hb (nomark _) hr
theorem t_ne (hu : X.A.units + 65 < cLine) (ha : QP X W Ma ra a pa) (hb : QP X W Mb rb b pb) (hr : okR ra Mb = true := by decide) : QT X W (Ma ++ Mb) (.Compare a [.NotEq] [b] pos) (sT (s2 pa pb (eqG true))) := t_cmpR (op_neAll (by omega)) g_ne ha hb (nomark _) hr
theorem t_in (hu : X.A.units + 65 < cLine) (ha : QP X W Ma ra a pa) (hb : QP X W Mb rb b pb) (hr : okR ra Mb = true := by decide) (hm : behindInMarks .In b = false := by rfl) : QT X W (Ma ++ Mb) (.Compare a [.In] [b] pos) (sT (s2 pa pb (inG false))) := t_cmpR (op_inAll hu) (g_in false) ha hb hm hr
theorem t_ni (hu : X.A.units + 65 < cLine) (ha : QP X W Ma ra a pa) (hb : QP X W Mb rb b pb) (hr : okR ra Mb = true := by decide) (hm : behindInMarks .NotIn b = false := by rfl) : QT X W (Ma ++ Mb) (.Compare a [.NotIn] [b] pos) (sT (s2 pa pb (inG true))) := t_cmpR (op_niAll hu) (g_in true) ha hb hm hr
theorem t_isN (ha : QP X W Ma ra a pa) (hb : QP X W Mb rb b pb) (hr : okR ra Mb = true := by decide) : QT X W (Ma ++ Mb) (.Compare a [.Is] [b] pos) (sT (s2 pa pb (isNG false))) := t_cmpR op_isN g_isN ha hb (nomark _) hr
theorem t_not (ha : QT X W M a ta) : QT X W M (.UnaryOp .Not a pos) (sNot ta) := ⟨PT_imp (pt_not ha.run) fun σ H Qv ⟨n, ow, env, Q, E, s, hq, k, x⟩ => ⟨n, ow, env, _, E, s, hq, fun b H' ow' env' y s' o z => k _ H' ow' env' y s' o z, x⟩⟩
theorem QW.t (h : QW X W M e ta) : QT X W M e ta := ⟨h.run.pt⟩
theorem PW_imp {t t' : TT} (h : PW X e t) (f : ∀ σ H Q, t' σ H Q → t σ H Q) : PW X e t' := ⟨fun wh pins s σ H Q I q => h.run wh pins s σ H Q I (f _ _ _ q)⟩
theorem w_and1 (ha : QT X W M a ta) : QW X W M (.BoolOp .And [a] pos) ta := ⟨pw_and1 ha.run⟩
theorem w_or1 (ha : QT X W M a ta) : QW X W M (.BoolOp .Or [a] pos) ta := ⟨pw_or1 ha.run⟩
theorem w_and (ha : QT X W Ma a ta) (hb : QW X W Mb (.BoolOp .And (b :: rest) pos) tb) : QW X W (Ma ++ Mb) (.BoolOp .And (a :: b :: rest) pos) (sAnd ta tb) := ⟨PW_imp (pw_and ha.run hb.run) fun σ H Qv ⟨n, ow, env, Q, E, s, hq, k, x⟩ =>
  ⟨n, ow, env, _, E, s, hq, fun c H1 ow1 env1 y1 s1 o1 z => by
    cases c with
    | true => exact ⟨n, ow1, env1, Q, E, s1, z.1 rfl, fun d H2 ow2 env2 y2 s2 o2 z2 => k d H2 ow2 env2 (y1.trans y2 subl subr (Nat.le_refl _) (Nat.le_refl _)) s2 (o1.trans o2 subl subr) z2, x.step y1 o1 subl subr (Nat.le_refl _) (Nat.le_refl _)⟩
    | false => exact k false H1 ow1 env1 (y1.mono subl (Nat.le_refl _)) s1 (o1.mono subl) (z.2 rfl), fun r d H' ow' env' y s' o => x r d H' ow' env' (y.mono subl (Nat.le_refl _)) s' (o.mono subl)⟩⟩
theorem w_or (ha : QT X W Ma a ta) (hb : QW X W Mb (.BoolOp .Or (b :: rest) pos) tb) : QW X W (Ma ++ Mb) (.BoolOp .Or (a :: b :: rest) pos) (sOr ta tb) := ⟨PW_imp (pw_or ha.run hb.run) fun σ H Qv ⟨n, ow, env, Q, E, s, hq, k, x⟩ =>
  ⟨n, ow, env, _, E, s, hq, fun c H1 ow1 env1 y1 s1 o1 z => by
    cases c with
    | false => exact ⟨n, ow1, env1, Q, E, s1, z.2 rfl, fun d H2 ow2 env2 y2 s2 o2 z2 => k d H2 ow2 env2 (y1.trans y2 subl subr (Nat.le_refl _) (Nat.le_refl _)) s2 (o1.trans o2 subl subr) z2, x.step y1 o1 subl subr (Nat.le_refl _) (Nat.le_refl _)⟩
    | true => exact k true H1 ow1 env1 (y1.mono subl (Nat.le_refl _)) s1 (o1.mono subl) (z.1 rfl), fun r d H' ow' env' y s' o => x r d H' ow' env' (y.mono subl (Nat.le_refl _)) s' (o.mono subl)⟩⟩
theorem w_andM (ha : QT X W Ma a ta) (hb : QW X W Mb (.BoolOp .And (b :: rest) pos) tb) : QW X W (Ma ++ Mb) (.BoolOp .And (a :: b :: rest) pos) (sAndM ta tb) := ⟨PW_imp (pw_and ha.run hb.run) fun σ H Qv ⟨n, ow, env, Q, E, s, hq, k, x⟩ =>
  ⟨n, ow, env, _, E, s, hq, fun c H1 ow1 env1 y1 s1 o1 z => by
    obtain ⟨b', z1, z2⟩ := z
    cases c with
    | true =>
      refine ⟨n, ow1, env1, _, _, s1, z1 rfl, fun d H2 ow2 env2 y2 s2 o2 q2 => ?_, fun r d H' ow' env' y s' o zz ez => ez.elim⟩
      obtain ⟨rfl, rfl⟩ := q2
      exact k d H2 ow2 env2 (y1.trans y2 subl subr (Nat.le_refl _) (Nat.le_refl _)) s2 (o1.trans o2 subl subr) z2
    | false => exact k false H1 ow1 env1 (y1.mono subl (Nat.le_refl _)) s1 (o1.mono subl) z2, fun r d H' ow' env' y s' o => x r d H' ow' env' (y.mono subl (Nat.le_refl _)) s' (o.mono subl)⟩⟩
theorem w_orM (ha : QT X W Ma a ta) (hb : QW X W Mb (.BoolOp .Or (b :: rest) pos) tb) : QW X W (Ma ++ Mb) (.BoolOp .Or (a :: b :: rest) pos) (sOrM ta tb) := ⟨PW_imp (pw_or ha.run hb.run) fun σ H Qv ⟨n, ow, env, Q, E, s, hq, k, x⟩ =>
  ⟨n, ow, env, _, E, s, hq, fun c H1 ow1 env1 y1 s1 o1 z => by
    obtain ⟨b', z1, z2⟩ := z
    cases c with
    | false =>
      refine ⟨n, ow1, env1, _, _, s1, z1 rfl, fun d H2 ow2 env2 y2 s2 o2 q2 => ?_, fun r d H' ow' env' y s' o zz ez => ez.elim⟩
      obtain ⟨rfl, rfl⟩ := q2
      exact k d H2 ow2 env2 (y1.trans y2 subl subr (Nat.le_refl _) (Nat.le_refl _)) s2 (o1.trans o2 subl subr) z2
    | true => exact k true H1 ow1 env1 (y1.mono subl (Nat.le_refl _)) s1 (o1.mono subl) z2, fun r d H' ow' env' y s' o => x r d H' ow' env' (y.mono subl (Nat.le_refl _)) s' (o.mono subl)⟩⟩
def sAndV (qa qb : SemE) : SemE := fun env Q E => sT qa env (fun c env1 => (c = true → qb env1 Q E) ∧ (c = false → Q (.fz (.bl false)) env1)) E
def sOrV (qa qb : SemE) : SemE := fun env Q E => sT qa env (fun c env1 => (c = true → Q (.fz (.bl true)) env1) ∧ (c = false → qb env1 Q E)) E
theorem q_one {op} (h : QE X W M a q) : QE X W M (.BoolOp op [a] pos) q := ⟨pe_one h.run⟩
theorem bl_of {K : PySem.W.Frag} {H : Hp} {ow : Ow} {l : Lab} {v : V} {b : Bool} (r : Tq K H ow l v (.fz (.bl b))) : v = .bl b := by have := Tq.rd r; cases this; rfl
theorem q_and (ha : QE X W Ma a qa) (hb : QE X W Mb (.BoolOp .And (b :: rest) pos) qb) : QE X W (Ma ++ Mb) (.BoolOp .And (a :: b :: rest) pos) (sAndV qa qb) := ⟨PE_imp (pe_and ha.run hb.run) fun σ H Qv ⟨n, ow, env, Q, E, s, hq, k, x⟩ =>
  ⟨n, ow, env, _, E, s, hq, fun v t H1 ow1 env1 y1 s1 o1 r1 z => by
    split at z
    · rename_i c
      refine ⟨c, bl_of r1, ?_⟩
      cases c with
      | true =>
        rw [if_pos rfl]
        exact ⟨n, ow1, env1, Q, E, s1, z.1 rfl, fun v2 t2 H2 ow2 env2 y2 s2 o2 r2 z2 => k v2 t2 H2 ow2 env2 (y1.trans y2 subl subr (Nat.le_refl _) (Nat.le_refl _)) s2 (o1.trans o2 subl subr) r2 z2, x.step y1 o1 subl subr (Nat.le_refl _) (Nat.le_refl _)⟩
      | false =>
        rw [if_neg Bool.false_ne_true]
        exact k _ _ H1 ow1 env1 (y1.mono subl (Nat.le_refl _)) s1 (o1.mono subl) (Tq.fz_.mpr (.bl _)) (z.2 rfl)
    · exact z.elim, fun r d H' ow' env' y s' o => x r d H' ow' env' (y.mono subl (Nat.le_refl _)) s' (o.mono subl)⟩⟩
theorem q_or (ha : QE X W Ma a qa) (hb : QE X W Mb (.BoolOp .Or (b :: rest) pos) qb) : QE X W (Ma ++ Mb) (.BoolOp .Or (a :: b :: rest) pos) (sOrV qa qb) := ⟨PE_imp (pe_or ha.run hb.run) fun σ H Qv ⟨n, ow, env, Q, E, s, hq, k, x⟩ =>
  ⟨n, ow, env, _, E, s, hq, fun v t H1 ow1 env1 y1 s1 o1 r1 z => by
    split at z
    · rename_i c
      refine ⟨c, bl_of r1, ?_⟩
      cases c with
      | false =>
        rw [if_neg Bool.false_ne_true]
        exact ⟨n, ow1, env1, Q, E, s1, z.2 rfl, fun v2 t2 H2 ow2 env2 y2 s2 o2 r2 z2 => k v2 t2 H2 ow2 env2 (y1.trans y2 subl subr (Nat.le_refl _) (Nat.le_refl _)) s2 (o1.trans o2 subl subr) r2 z2, x.step y1 o1 subl subr (Nat.le_refl _) (Nat.le_refl _)⟩
      | true =>
        rw [if_pos rfl]
        exact k _ _ H1 ow1 env1 (y1.mono subl (Nat.le_refl _)) s1 (o1.mono subl) (Tq.fz_.mpr (.bl _)) (z.1 rfl)
    · exact z.elim, fun r d H' ow' env' y s' o => x r d H' ow' env' (y.mono subl (Nat.le_refl _)) s' (o.mono subl)⟩⟩
def sNotV (qa : SemE) : SemE := fun env Q E => sT qa env (fun c env1 => Q (.fz (.bl (!c))) env1) E
theorem q_not (ha : QE X W M a qa) : QE X W M (.UnaryOp .Not a pos) (sNotV qa) := ⟨PE_imp (pe_not ha.run) fun σ H Qv ⟨n, ow, env, Q, E, s, hq, k, x⟩ =>
  ⟨n, ow, env, _, E, s, hq, fun v t H1 ow1 env1 y1 s1 o1 r1 z => by
    split at z
    · rename_i c
      exact ⟨c, bl_of r1, k _ _ H1 ow1 env1 y1 s1 o1 (Tq.fz_.mpr (.bl _)) z⟩
    · exact z.elim, x⟩⟩
def sChain (pa pb pc : SemP) (f g : Int → Int → Bool) : SemT := fun env Q E => pa env (fun t _ env1 => pb env1 (fun u _ env2 => match t, u with
  | .fz (.int i), .fz (.int j) => ∃ b : Bool, (f i j = true → pc env2 (fun w _ env3 => match w with
    | .fz (.int k) => g j k = b ∧ env3 = env2
    | _ => False) fun _ _ => False) ∧ Q (f i j && b) env2
  | _, _ => False) E) E
theorem chain_run {f g : Int → Int → Bool} (hr : okR ra Mb = true) {σ : L2.St} {H : Hp} {Qb : Bool → Hp → Prop} {Qv : VK} (h : tT X.K W ((Ma ++ Mb) ++ Mc) (sChain pa pb pc f g) σ H Qb) (hQ : ∀ b H', Qb b H' → Qv (.bl b) H') :
    tChain (rI0 fun i j => .bl (f i j)) (rI0 fun i j => .bl (g i j)) (tP X.K W Ma ra pa) (tP X.K W Mb rb pb) (tP X.K W Mc rc pc) σ H Qv := by
  obtain ⟨n, ow, env, Q, E, s, hq, k, x⟩ := h
  refine two (Ma := Ma) (Mb := Mb) (E := E) (R := fun t u env2 => match t, u with
    | .fz (.int i), .fz (.int j) => ∃ b : Bool, (f i j = true → pc env2 (fun w _ env3 => match w with
      | .fz (.int k) => g j k = b ∧ env3 = env2
      | _ => False) fun _ _ => False) ∧ Q (f i j && b) env2
    | _, _ => False) hr s hq (fun x' y t u H' ow' env' y1 s' o r1 r2 z => ?_) fun r d H' ow' env' y s' o => x r d H' ow' env' (y.mono subl (Nat.le_refl _)) s' (o.mono subl)
  split at z
  · rename_i i j
    obtain ⟨b', z1, z2⟩ := z
    refine ⟨i, j, r1.int, r2.int, _, rfl, ?_⟩
    have ey := r2.int
    cases e : f i j with
    | false =>
      rw [e] at z2
      rw [if_neg Bool.false_ne_true]
      exact hQ _ _ (k false H' ow' env' (y1.mono subl (Nat.le_refl _)) s' (o.mono subl) z2)
    | true =>
      rw [e] at z2
      rw [if_pos rfl]
      refine ⟨n, ow', env', _, _, s', z1 e, fun v w pt H2 ow2 env2 y2 s2 o2 r3 q3 => ?_, fun r d H' ow' env' y s' o zz ez => ez.elim⟩
      have ro := r3.ro s2
      split at q3
      · rename_i kk
        obtain ⟨q3, rfl⟩ := q3
        refine ⟨j, kk, ey, ro.int, ?_⟩
        show Qv (.bl (g j kk)) H2
        rw [q3]
        exact hQ _ _ (k b' H2 ow2 _ (y1.trans y2 subl subr (Nat.le_refl _) (Nat.le_refl _)) s2 (o.mono subl) z2)
      · exact q3.elim
  · exact z.elim
theorem t_chain {op op' : CmpOp} {f g : Int → Int → Bool} (ho : OpR X (compareOp op) (rI0 fun i j => .bl (f i j))) (ho' : OpR X (compareOp op') (rI0 fun i j => .bl (g i j))) (ha : QP X W Ma ra a pa) (hb : QP X W Mb rb b pb) (hc : QP X W Mc rc c pc)
    (hm : lastMarks [op, op'] [b, c] = false := by with_unfolding_all rfl) (hr : okR ra Mb = true := by decide) : QT X W ((Ma ++ Mb) ++ Mc) (.Compare a [op, op'] [b, c] pos) (sChain pa pb pc f g) :=
  ⟨PT_imp (pt_chain ho ho' ha.run hb.run hc.run hm) fun σ H Qv h => chain_run hr h fun b H' q => ⟨b, rfl, q⟩⟩
theorem q_chain {op op' : CmpOp} {f g : Int → Int → Bool} (ho : OpR X (compareOp op) (rI0 fun i j => .bl (f i j))) (ho' : OpR X (compareOp op') (rI0 fun i j => .bl (g i j))) (ha : QP X W Ma ra a pa) (hb : QP X W Mb rb b pb) (hc : QP X W Mc rc c pc)
    (hm : lastMarks [op, op'] [b, c] = false := by with_unfolding_all rfl) (hr : okR ra Mb = true := by decide) : QE X W ((Ma ++ Mb) ++ Mc) (.Compare a [op, op'] [b, c] pos) (sTV (sChain pa pb pc f g)) :=
  ⟨PE_imp (pe_chain ho ho' ha.run hb.run hc.run hm) fun σ H Qv ⟨n, ow, env, Q, E, s, hq, k, x⟩ => chain_run (Qb := fun b H' => ∃ ow' env', Stp ((Ma ++ Mb) ++ Mc) n H ow H' ow' ∧ StOk X.K H' ow' σ env' ∧ Out ((Ma ++ Mb) ++ Mc) env env' ∧ Q (.fz (.bl b)) env') hr
    ⟨n, ow, env, _, E, s, hq, fun b H' ow' env' y s' o z => ⟨ow', env', y, s', o, z⟩, x⟩ fun b H' ⟨ow', env', y, s', o, z⟩ => k _ _ H' ow' env' y s' o (Tq.fz_.mpr (.bl _)) z⟩
end
end QV

set_option Elab.async false
set_option linter.all false
set_option maxRecDepth 100000
set_option maxHeartbeats 2000000
namespace QV
open PySem L2

structure EndsQ where
  nx : Env → Prop
  rt : T → Env → Prop
  bk : Env → Prop
  ct : Env → Prop
  ex : XQ
abbrev SemS := EndsQ → Env → Prop
structure Fs (H : Hp) (ow : Ow) (H' : Hp) (ow' : Ow) : Prop where
  go : ∀ a o, H a = some o → (ow a = .fr ∨ ow a = .base) → H' a = some o ∧ ow' a = ow a
  tp : ∀ a vs, H a = some (.tup vs) → H' a = some (.tup vs)
instance {H : Hp} {ow : Ow} {H' : Hp} {ow' : Ow} : CoeFun (Fs H ow H' ow') (fun _ => ∀ a o, H a = some o → (ow a = .fr ∨ ow a = .base) → H' a = some o ∧ ow' a = ow a) := ⟨Fs.go⟩
def Ios (IO : List Nat) (σ σ' : L2.St) : Prop := ∀ i ∈ IO, σ'[i]? = σ[i]?
section
variable {K : PySem.W.Frag} {H H' H1 H2 : Hp} {ow ow' ow1 ow2 : Ow} {M : List Nat} {n : Nat} {σ σ' σ1 : L2.St} {IO : List Nat}
theorem Stp.fs (x : Stp M n H ow H' ow') : Fs H ow H' ow' := ⟨fun a o e q => x a o e (by rcases q with q | q <;> rw [q] <;> trivial), x.tp⟩
theorem Fs.refl : Fs H ow H ow := ⟨fun _ _ e _ => ⟨e, rfl⟩, fun _ _ e => e⟩
theorem Fs.trans (x : Fs H ow H1 ow1) (y : Fs H1 ow1 H2 ow2) : Fs H ow H2 ow2 := ⟨fun a o e q => by
  obtain ⟨e1, q1⟩ := x a o e q
  obtain ⟨e2, q2⟩ := y a o e1 (by rw [q1]; exact q)
  exact ⟨e2, q2.trans q1⟩, fun a vs e => y.tp a vs (x.tp a vs e)⟩
theorem Fs.bs (x : Fs H ow H' ow') : Same (Bs H ow) (Bs H' ow') := bs_map (fun a o e q => by
  obtain ⟨h1, h2⟩ := x a o e (.inr q)
  exact ⟨h1, h2.trans q⟩) x.tp
theorem Ios.refl : Ios IO σ σ := fun _ _ => rfl
theorem Ios.trans (x : Ios IO σ σ1) (y : Ios IO σ1 σ') : Ios IO σ σ' := fun i h => (y i h).trans (x i h)
end
def Bh (K : PySem.W.Frag) (IO : List Nat) (σ : L2.St) (H : Hp) (ow : Ow) (D : L2.St → Hp → Prop) (De : Env → Prop) : Prop :=
  ∀ (σ' : L2.St) (H' : Hp) (ow' : Ow) (env' : Env), Fs H ow H' ow' → Ios IO σ σ' → StOk K H' ow' σ' env' → De env' → D σ' H'
def BhR (K : PySem.W.Frag) (IO : List Nat) (σ : L2.St) (H : Hp) (ow : Ow) (D : VK) (De : T → Env → Prop) : Prop :=
  ∀ (v : V) (t : T) (σ' : L2.St) (H' : Hp) (ow' : Ow) (env' : Env), Fs H ow H' ow' → Ios IO σ σ' → StOk K H' ow' σ' env' → Tq K H' ow' (.tm 0) v t → De t env' → D v H'
def BhX (K : PySem.W.Frag) (W : WX) (IO : List Nat) (σ : L2.St) (H : Hp) (ow : Ow) (De : XQ) : Prop :=
  ∀ (r : Rz) (d : Option Addr) (σ' : L2.St) (H' : Hp) (ow' : Ow) (env' : Env), Fs H ow H' ow' → Ios IO σ σ' → StOk K H' ow' σ' env' → Rzp K H' ow' d r → De r env' → W (.ref r.C) d σ' H'
structure Bhs (K : PySem.W.Frag) (W : WX) (IO : List Nat) (σ : L2.St) (H : Hp) (ow : Ow) (D : Ends) (De : EndsQ) : Prop where
  nx : Bh K IO σ H ow D.nx De.nx
  rt : BhR K IO σ H ow D.rt De.rt
  bk : Bh K IO σ H ow D.bk De.bk
  ct : Bh K IO σ H ow D.ct De.ct
  ex : BhX K W IO σ H ow De.ex
def tS (K : PySem.W.Frag) (W : WX) (IO : List Nat) (q : SemS) : TS := fun D σ H => ∃ (ow : Ow) (env : Env) (De : EndsQ), StOk K H ow σ env ∧ q De env ∧ Bhs K W IO σ H ow D De
structure QS (X : Cx) (W : WX) (IO : List Nat) (st : Stmt) (q : SemS) : Prop where
  run : PS X st (tS X.K W IO q)
structure QSs (X : Cx) (W : WX) (IO : List Nat) (st : List Stmt) (q : SemS) : Prop where
  run : PSs X st (tS X.K W IO q)
theorem PS_imp {X : Cx} {st : Stmt} {t t' : TS} (h : PS X st t) (f : ∀ D σ H, t' D σ H → t D σ H) : PS X st t' := ⟨fun pins s σ H D I q => h.run pins s σ H D I (f _ _ _ q)⟩
theorem PSs_imp {X : Cx} {st : List Stmt} {t t' : TS} (h : PSs X st t) (f : ∀ D σ H, t' D σ H → t D σ H) : PSs X st t' := ⟨fun pins s σ H D I q => h.run pins s σ H D I (f _ _ _ q)⟩
section
variable {K : PySem.W.Frag} {W : WX} {IO : List Nat} {σ σ1 : L2.St} {H H1 : Hp} {ow ow1 : Ow} {D : Ends} {De : EndsQ}
theorem Bh.step {D : L2.St → Hp → Prop} {De : Env → Prop} (k : Bh K IO σ H ow D De) (x : Fs H ow H1 ow1) (y : Ios IO σ σ1) : Bh K IO σ1 H1 ow1 D De := fun σ' H' ow' env' f i s z => k σ' H' ow' env' (x.trans f) (y.trans i) s z
theorem BhR.step {D : VK} {De : T → Env → Prop} (k : BhR K IO σ H ow D De) (x : Fs H ow H1 ow1) (y : Ios IO σ σ1) : BhR K IO σ1 H1 ow1 D De := fun v t σ' H' ow' env' f i s z => k v t σ' H' ow' env' (x.trans f) (y.trans i) s z
theorem BhX.step {De : XQ} (k : BhX K W IO σ H ow De) (x : Fs H ow H1 ow1) (y : Ios IO σ σ1) : BhX K W IO σ1 H1 ow1 De := fun v t σ' H' ow' env' f i s z => k v t σ' H' ow' env' (x.trans f) (y.trans i) s z
theorem Bhs.step (k : Bhs K W IO σ H ow D De) (x : Fs H ow H1 ow1) (y : Ios IO σ σ1) : Bhs K W IO σ1 H1 ow1 D De := ⟨k.nx.step x y, k.rt.step x y, k.bk.step x y, k.ct.step x y, k.ex.step x y⟩
theorem BhX.xk {M : List Nat} {n : Nat} {env : Env} {E : XQ} (k : BhX K W IO σ H ow E) : Xk K W M σ H n ow env E := fun r d H' ow' env' y s _ z e => k r d σ H' ow' env' y.fs Ios.refl s z e
end

def sSeq (a b : SemS) : SemS := fun D env => a { D with nx := b D } env
def sNext : SemS := fun D env => D.nx env
def sSet (i : Nat) (q : SemE) : SemS := fun D env => q env (fun t env1 => D.nx (env1.set i (some t))) D.ex
def sRet (q : SemE) : SemS := fun D env => q env D.rt D.ex
def sDrop (q : SemE) : SemS := fun D env => q env (fun _ env1 => D.nx env1) D.ex
def sIfS (t : SemT) (a b : SemS) : SemS := fun D env => t env (fun c env1 => (c = true → a D env1) ∧ (c = false → b D env1)) D.ex
inductive CutG (q : SemS) (D : EndsQ) (env : Env) : Prop
  | mk (h : ∃ R : Env → Prop, q { D with nx := R } env ∧ ∀ env', R env' → D.nx env')
  | no (h : False)
theorem CutG.ex {q : SemS} {D : EndsQ} {env : Env} : CutG q D env → ∃ R : Env → Prop, q { D with nx := R } env ∧ ∀ env', R env' → D.nx env'
  | .mk h => h
  | .no h => h.elim
def sCut (q : SemS) : SemS := fun D env => CutG q D env
theorem StOk.set {K : PySem.W.Frag} {H : Hp} {ow : Ow} {σ : L2.St} {env : Env} {i : Nat} {v : V} {t : T} (s : StOk K H ow σ env) (h : Tq K H ow (.sl i) v t) : StOk K H ow (σ.set i (some v)) (env.set i (some t)) := ⟨by rw [List.length_set, List.length_set]; exact s.len, fun j u e => by
  by_cases hj : i = j
  · subst hj
    have hl : i < env.length := by
      refine Nat.lt_of_not_le fun z => ?_
      rw [List.getElem?_eq_none (by simpa using z)] at e
      cases e
    rw [List.getElem?_set_self hl] at e
    cases e
    exact ⟨v, List.getElem?_set_self (by rw [← s.len]; exact hl), h⟩
  · rw [List.getElem?_set_ne hj] at e
    obtain ⟨w, e1, q⟩ := s.at_ j u e
    exact ⟨w, by rw [List.getElem?_set_ne hj]; exact e1, q⟩⟩
section
variable {X : Cx} {W : WX} {IO M : List Nat} {e : Expr} {q : SemE} {st : Stmt} {rest : List Stmt} {a b : SemS} {pos pos' : Pos}
theorem ss_nil : QSs X W IO [] sNext := ⟨PSs_imp pss_nil fun D σ H ⟨ow, env, De, s, hq, k⟩ => k.nx σ H ow env Fs.refl Ios.refl s hq⟩
theorem seq_run {K : PySem.W.Frag} {t u : TS} {a b : SemS} {D : Ends} {σ : L2.St} {H : Hp} (h : tS K W IO (sSeq a b) D σ H) (f1 : ∀ D, tS K W IO a D σ H → t D σ H) (f2 : ∀ σ' H', tS K W IO b D σ' H' → u D σ' H') : tSeq t u D σ H := by
  obtain ⟨ow, env, De, s, hq, k⟩ := h
  exact f1 _ ⟨ow, env, _, s, hq, ⟨fun σ' H' ow' env' x y s' z => f2 σ' H' ⟨ow', env', De, s', z, k.step x y⟩, k.rt, k.bk, k.ct, k.ex⟩⟩
theorem ss_cons (h1 : QS X W IO st a) (h2 : QSs X W IO rest b) : QSs X W IO (st :: rest) (sSeq a b) := ⟨PSs_imp (pss_cons h1.run h2.run) fun _ _ _ h => seq_run h (fun _ z => z) fun _ _ z => z⟩
theorem ss_one (h1 : QS X W IO st a) : QSs X W IO [st] a := ⟨pss_one h1.run⟩
theorem s_expr (he : QE X W M e q) (hs : swapsWith e none pos.line X.env = pure false := by rfl) : QS X W IO (.Expr e pos) (sDrop q) := ⟨PS_imp (ps_expr he.run hs) fun D σ H ⟨ow, env, De, s, hq, k⟩ =>
  ⟨0, ow, env, _, De.ex, s, hq, fun v t H' ow' env' y s' _ r z => k.nx σ H' ow' env' y.fs Ios.refl s' z, k.ex.xk⟩⟩
theorem s_ret (he : QE X W M e q) : QS X W IO (.Return (some e) pos) (sRet q) := ⟨PS_imp (ps_ret he.run) fun D σ H ⟨ow, env, De, s, hq, k⟩ =>
  ⟨0, ow, env, _, De.ex, s, hq, fun v t H' ow' env' y s' _ r z => k.rt v t σ H' ow' env' y.fs Ios.refl s' r z, k.ex.xk⟩⟩
theorem s_if {c : Expr} {sa sb : List Stmt} {tc : SemT} (hc : QT X W M c tc) (ha : QSs X W IO sa a) (hb : QSs X W IO sb b) : QS X W IO (.If c sa sb pos) (sIfS tc a b) := ⟨PS_imp (ps_if hc.run ha.run hb.run) fun D σ H ⟨ow, env, De, s, hq, k⟩ =>
  ⟨0, ow, env, _, De.ex, s, hq, fun d H' ow' env' y s' _ z => by
    cases d with
    | true => rw [if_pos rfl]; exact ⟨ow', env', De, s', z.1 rfl, k.step y.fs Ios.refl⟩
    | false => rw [if_neg Bool.false_ne_true]; exact ⟨ow', env', De, s', z.2 rfl, k.step y.fs Ios.refl⟩, k.ex.xk⟩⟩
theorem QS.cut (h : QS X W IO st a) : QS X W IO st (sCut a) := ⟨PS_imp h.run fun D σ H ⟨ow, env, De, s, hG, k⟩ =>
  have ⟨R, hq, hR⟩ := hG.ex
  ⟨ow, env, { De with nx := R }, s, hq, ⟨fun σ' H' ow' env' x y s' z => k.nx σ' H' ow' env' x y s' (hR _ z), k.rt, k.bk, k.ct, k.ex⟩⟩⟩
theorem into_slot {K : PySem.W.Frag} {H : Hp} {ow : Ow} {σ : L2.St} {env : Env} {i : Nat} {v : V} {t : T} (s : StOk K H ow σ env) (r : Tq K H ow (.tm 0) v t) : Stp [] 0 H ow H (Ow.mv ow (.tm 0) (.sl i)) ∧ StOk K H (Ow.mv ow (.tm 0) (.sl i)) (σ.set i (some v)) (env.set i (some t)) :=
  have y : Stp [] 0 H ow H (Ow.mv ow (.tm 0) (.sl i)) := Stp.mv not_tm
  ⟨y, (s.stp0 y).set (r.mv fun z => nomatch z)⟩
theorem ios_set {IO : List Nat} {σ : L2.St} {i : Nat} {v : Option V} (h : i ∉ IO) : Ios IO σ (σ.set i v) := fun j hj => List.getElem?_set_ne fun z => h (by rw [z]; exact hj)
theorem s_set (i : Nat) {x : Str} (he : QE X W M e q) (hN : X.N.Nodup) (hi : X.N[i]? = some x := by rfl) (hx : Loc X.env.scope x := by first | exact Or.inl rfl | exact Or.inr rfl) (hio : i ∉ IO := by decide)
    (hs : swapsWith e (some (.Name x pos')) pos.line X.env = pure false := by rfl) (hf : X.fn x = true ∨ X.env.scope.names.lookup x = some .local := by first | exact .inl rfl | exact .inr rfl) : QS X W IO (.Assign [.Name x pos'] e pos) (sSet i q) :=
  ⟨PS_imp (ps_set (i := i) hN hi hx he.run hs hf) fun D σ H ⟨ow, env, De, s, hq, k⟩ => ⟨0, ow, env, _, De.ex, s, hq, fun v t H' ow' env' y s' _ r z =>
    have ⟨y2, s2⟩ := into_slot s' r
    k.nx _ _ _ _ (y.fs.trans y2.fs) (ios_set hio) s2 z, k.ex.xk⟩⟩
end
end QV

set_option Elab.async false
set_option linter.all false
set_option maxRecDepth 100000
set_option maxHeartbeats 2000000
namespace QV
open PySem L2

structure Tch (SS : List Nat) (σ σ' : L2.St) : Prop where
  len : σ'.length = σ.length
  eq : ∀ i, i ∉ SS → σ'[i]? = σ[i]?
theorem Tch.refl {SS : List Nat} {σ : L2.St} : Tch SS σ σ := ⟨rfl, fun _ _ => rfl⟩
theorem Tch.trans {S1 S2 S3 : List Nat} {σ σ1 σ2 : L2.St} (x : Tch S1 σ σ1) (y : Tch S2 σ1 σ2) (h1 : ∀ i ∈ S1, i ∈ S3) (h2 : ∀ i ∈ S2, i ∈ S3) : Tch S3 σ σ2 := ⟨y.len.trans x.len, fun i hi => (y.eq i fun z => hi (h2 i z)).trans (x.eq i fun z => hi (h1 i z))⟩
theorem Tch.ios {SS IO : List Nat} {σ σ' : L2.St} (x : Tch SS σ σ') (h : ∀ i ∈ IO, i ∉ SS) : Ios IO σ σ' := fun i hi => x.eq i (h i hi)
abbrev SemG := D → Env → (Env → Prop) → Prop
abbrev SemGs := List D → Env → (Env → Prop) → Prop
def tG (K : PySem.W.Frag) (SS : List Nat) (g : SemG) : TG := fun v σ H Q => ∃ (ow : Ow) (env : Env) (d : D) (k : Env → Prop), StOk K H ow σ env ∧ Rp K (Bs H ow) v d ∧ g d env k ∧
  ∀ σ' env', Tch SS σ σ' → Out SS env env' → StOk K H ow σ' env' → k env' → Q σ' H
def tGs (K : PySem.W.Frag) (SS : List Nat) (g : SemGs) : TGs := fun vs σ H Q => ∃ (ow : Ow) (env : Env) (ds : List D) (k : Env → Prop), StOk K H ow σ env ∧ Rps K (Bs H ow) vs ds ∧ g ds env k ∧
  ∀ σ' env', Tch SS σ σ' → Out SS env env' → StOk K H ow σ' env' → k env' → Q σ' H
structure QG (X : Cx) (SS : List Nat) (tg : Expr) (g : SemG) : Prop where
  run : PG X tg (tG X.K SS g)
structure QGs (X : Cx) (SS : List Nat) (tg : List Expr) (g : SemGs) : Prop where
  run : PGs X tg (tGs X.K SS g)
theorem PG_imp {X : Cx} {e : Expr} {t t' : TG} (h : PG X e t) (f : ∀ v σ H Q, t' v σ H Q → t v σ H Q) : PG X e t' := ⟨fun pins s σ H v u Q I r q => h.run pins s σ H v u Q I r (f _ _ _ _ q)⟩
theorem PGs_imp {X : Cx} {e : List Expr} {t t' : TGs} (h : PGs X e t) (f : ∀ v σ H Q, t' v σ H Q → t v σ H Q) : PGs X e t' := ⟨fun pins s σ H v u Q I r q => h.run pins s σ H v u Q I r (f _ _ _ _ q)⟩
def gN (i : Nat) : SemG := fun d env k => k (env.set i (some (.fz d)))
def gNil0 : SemGs := fun ds env k => match ds with
  | [] => k env
  | _ => False
def gCons0 (g : SemG) (gs : SemGs) : SemGs := fun ds env k => match ds with
  | d :: ds => g d env fun env' => gs ds env' k
  | _ => False
def gTup0 (n : Nat) (gs : SemGs) : SemG := fun d env k => match d with
  | .nd .tup ds => ds.length = n ∧ gs ds env k
  | _ => False
section
variable {X : Cx} {SS S1 S2 IO : List Nat} {e : Expr} {es : List Expr} {g : SemG} {gs : SemGs} {pos : Pos}
theorem g_name (i : Nat) {x : Str} (hN : X.N.Nodup) (hi : X.N[i]? = some x := by rfl) (hx : Loc X.env.scope x := by first | exact Or.inl rfl | exact Or.inr rfl) (hf : X.fn x = true ∨ X.env.scope.names.lookup x = some .local := by first | exact .inl rfl | exact .inr rfl) : QG X [i] (.Name x pos) (gN i) :=
  ⟨PG_imp (pg_name (i := i) hN hi hx hf) fun v σ H Q ⟨ow, env, d, k, s, r, hq, h⟩ => h _ _ ⟨List.length_set, fun j hj => List.getElem?_set_ne fun z => hj (by simp [z])⟩ Out.set1 (s.set (Tq.fz_.mpr r)) hq⟩
theorem gs_nil : QGs X [] [] gNil0 := ⟨PGs_imp pgs_nil fun vs σ H Q ⟨ow, env, ds, k, s, r, hq, h⟩ => by
  cases r with
  | nil => exact ⟨rfl, h _ _ Tch.refl Out.refl s hq⟩
  | cons _ _ => exact hq.elim⟩
theorem gs_cons (h1 : QG X S1 e g) (h2 : QGs X S2 es gs) (hs : (assignEach (e :: es) X.env).map (·.2) = assign e X.env :: (assignEach es X.env).map (·.2) := by rfl) : QGs X (S1 ++ S2) (e :: es) (gCons0 g gs) := ⟨PGs_imp (pgs_cons h1.run h2.run hs) fun vs σ H Q ⟨ow, env, ds, k, s, r, hq, h⟩ => by
  cases r with
  | nil => exact hq.elim
  | cons r1 r2 => exact ⟨_, _, rfl, ow, env, _, _, s, r1, hq, fun σ' env' i1 o1 s1 z => ⟨ow, env', _, k, s1, r2, z, fun σ2 env2 i2 o2 s2 z2 => h σ2 env2 (i1.trans i2 subl subr) (o1.trans o2 subl subr) s2 z2⟩⟩⟩
theorem g_tup {k : Nat} {n : Nat} (hc : X.calm = true) (h : QGs X SS es gs) (hn : (assignEach es X.env).length = n := by rfl) (hst : (assignEach es X.env).findIdx? (·.1) = none := by rfl) : QG X SS (.Tuple es k pos) (gTup0 n gs) := ⟨PG_imp (pg_tup hc h.run hn hst) fun v σ H Q ⟨ow, env, d, k, s, r, hq, h⟩ => by
  unfold gTup0 at hq
  split at hq
  · cases r with
    | tup c z r => exact ⟨_, _, rfl, sqT_of (bs_same H ow _ _ c), by rw [r.len]; exact hq.1, ow, env, _, k, s, r, hq.2, h⟩
    | cell hn _ _ => exact absurd rfl hn
  · exact hq.elim⟩
end

def Ext (H : Hp) (ow : Ow) (H' : Hp) (ow' : Ow) : Prop := ∀ a o, H a = some o → H' a = some o ∧ ow' a = ow a
theorem Ext.refl {H : Hp} {ow : Ow} : Ext H ow H ow := fun _ _ e => ⟨e, rfl⟩
theorem Ext.stp {M : List Nat} {n : Nat} {H H' : Hp} {ow ow' : Ow} (x : Ext H ow H' ow') : Stp M n H ow H' ow' := ⟨fun a o e _ => x a o e, fun a vs e => (x a _ e).1⟩
theorem Ext.new {H : Hp} {ow : Ow} {p : Addr} {o : HO} {l : Lab} (h : H p = none) : Ext H ow (upd H p o) (Ow.put ow p l) := fun a u e => by
  have ne := ne_of_none e h
  exact ⟨by rw [upd_ne ne]; exact e, put_ne ne⟩
structure ItD (K : PySem.W.Frag) (H : Hp) (ow : Ow) (J : It) (ds : List D) : Prop where
  go : ∀ (i : Nat) (d : D) (H' : Hp) (ow' : Ow), Fs H ow H' ow' → ds[i]? = some d → J.go i H'
  yld : ∀ (i : Nat) (d : D) (H' : Hp) (ow' : Ow) (x : V) (H2 : Hp), Fs H ow H' ow' → ds[i]? = some d → J.yld i H' x H2 → ∃ ow2, Ext H' ow' H2 ow2 ∧ Rp K (Bs H2 ow2) x d
  stop : ∀ (H' : Hp) (ow' : Ow), Fs H ow H' ow' → J.stop ds.length H'
  sz : ds.length ≤ sizeLine
abbrev SemI := Env → (List D → Env → Prop) → XQ → Prop
def tI (K : PySem.W.Frag) (W : WX) (M : List Nat) (q : SemI) : TI := fun σ H R => ∃ (n : Nat) (ow : Ow) (env : Env) (Q : List D → Env → Prop) (E : XQ), StOk K H ow σ env ∧ q env Q E ∧
  (∀ (J : It) (ds : List D) (H' : Hp) (ow' : Ow) (env' : Env), Stp M n H ow H' ow' → StOk K H' ow' σ env' → Out M env env' → ItD K H' ow' J ds → Q ds env' → R J H') ∧ Xk K W M σ H n ow env E
structure QI (X : Cx) (W : WX) (M : List Nat) (tg e : Expr) (q : SemI) : Prop where
  run : PI X tg e (tI X.K W M q)
theorem PI_imp {X : Cx} {tg e : Expr} {t t' : TI} (h : PI X tg e t) (f : ∀ σ H R, t' σ H R → t σ H R) : PI X tg e t' := ⟨fun pins s σ H R I q => h.run pins s σ H R I (f _ _ _ q)⟩
section
variable {K : PySem.W.Frag} {H : Hp} {ow : Ow}
theorem itd_list {a : Addr} {vs : List V} {ds : List D} (h : SqL K (Bs H ow) a vs) (hz : vs.length ≤ sizeLine) (r : Rps K (Bs H ow) vs ds) : ItD K H ow (Itl K a) ds := by
  have st : ∀ {H' : Hp} {ow' : Ow}, Fs H ow H' ow' → SqL K H' a vs := fun x => ((bs_same _ _).seq (x.bs.seq h))
  refine ⟨fun i d H' ow' x e => ?_, fun i d H' ow' y H2 x e q => ?_, fun H' ow' x => ⟨vs, st x, Nat.le_of_eq r.len⟩, by rw [← r.len]; exact hz⟩
  · obtain ⟨v, e1, _⟩ := r.get e
    exact ⟨vs, v, st x, e1⟩
  · obtain ⟨rfl, hy⟩ := q
    obtain ⟨v, e1, r1⟩ := r.get e
    have ev := hy vs (st x)
    rw [e1] at ev
    cases ev
    exact ⟨ow', Ext.refl, r1.mono x.bs⟩
theorem itd_tup {a : Addr} {vs : List V} {ds : List D} (h : SqT K (Bs H ow) a vs) (hz : vs.length ≤ sizeLine) (r : Rps K (Bs H ow) vs ds) : ItD K H ow (Itt K a) ds := by
  have st : ∀ {H' : Hp} {ow' : Ow}, Fs H ow H' ow' → SqT K H' a vs := fun x => (sqT_mono (bs_same _ _) (sqT_mono x.bs h))
  refine ⟨fun i d H' ow' x e => ?_, fun i d H' ow' y H2 x e q => ?_, fun H' ow' x => ⟨vs, st x, Nat.le_of_eq r.len⟩, by rw [← r.len]; exact hz⟩
  · obtain ⟨v, e1, _⟩ := r.get e
    exact ⟨vs, v, st x, e1⟩
  · obtain ⟨rfl, hy⟩ := q
    obtain ⟨v, e1, r1⟩ := r.get e
    have ev := hy vs (st x)
    rw [e1] at ev
    cases ev
    exact ⟨ow', Ext.refl, r1.mono x.bs⟩
def rngD (lo : Int) (n : Nat) : List D := (List.range n).map fun k => D.int (lo + (k : Nat))
theorem rngD_len {lo : Int} {n : Nat} : (rngD lo n).length = n := by unfold rngD; rw [List.length_map, List.length_range]
theorem rngD_get {lo : Int} {n i : Nat} {d : D} (h : (rngD lo n)[i]? = some d) : i < n ∧ d = .int (lo + (i : Nat)) := by
  unfold rngD at h
  rw [List.getElem?_map] at h
  by_cases hi : i < n
  · rw [List.getElem?_range hi] at h
    cases h
    exact ⟨hi, rfl⟩
  · rw [List.getElem?_eq_none (by simpa using hi)] at h
    cases h
theorem itd_rng {lo : Int} {n : Nat} (hz : n ≤ sizeLine) : ItD K H ow (Itr lo n) (rngD lo n) :=
  ⟨fun i d H' ow' x e => (rngD_get e).1, fun i d H' ow' y H2 x e q => by
    obtain ⟨rfl, rfl⟩ := q
    rw [(rngD_get e).2]
    exact ⟨ow', Ext.refl, .int _⟩, fun H' ow' x => Nat.le_of_eq rngD_len.symm, by rw [rngD_len]; exact hz⟩
def enumD (ds : List D) : List D := (List.range ds.length).zipWith (fun k d => D.nd .tup [.int (k : Nat), d]) ds
theorem enumD_get {ds : List D} {i : Nat} {d : D} (h : (enumD ds)[i]? = some d) : ∃ e, ds[i]? = some e ∧ d = .nd .tup [.int (i : Nat), e] := by
  unfold enumD at h
  rw [List.getElem?_zipWith] at h
  cases e : ds[i]? with
  | none => rw [e] at h; split at h <;> simp_all
  | some y =>
    have hi : i < ds.length := (List.getElem?_eq_some_iff.mp e).1
    rw [e, List.getElem?_range hi] at h
    cases h
    exact ⟨y, rfl, rfl⟩
theorem enumD_len {ds : List D} : (enumD ds).length = ds.length := by unfold enumD; rw [List.length_zipWith, List.length_range, Nat.min_self]
theorem itd_enum {a : Addr} {vs : List V} {ds : List D} (h : SqL K (Bs H ow) a vs) (hz : vs.length ≤ sizeLine) (r : Rps K (Bs H ow) vs ds) : ItD K H ow (Ite K a) (enumD ds) := by
  have st : ∀ {H' : Hp} {ow' : Ow}, Fs H ow H' ow' → SqL K H' a vs := fun x => ((bs_same _ _).seq (x.bs.seq h))
  refine ⟨fun i d H' ow' x e => ?_, fun i d H' ow' y H2 x e q => ?_, fun H' ow' x => ⟨vs, st x, by rw [enumD_len]; exact Nat.le_of_eq r.len⟩, by rw [enumD_len, ← r.len]; exact hz⟩
  · obtain ⟨e', e1, _⟩ := enumD_get e
    obtain ⟨v, e2, _⟩ := r.get e1
    exact ⟨vs, v, st x, e2⟩
  · obtain ⟨Tt, v, rfl, hn, rfl, hy⟩ := q
    obtain ⟨e', e1, rfl⟩ := enumD_get e
    obtain ⟨w, e2, r1⟩ := r.get e1
    have ev := hy vs (st x)
    rw [e2] at ev
    cases ev
    have y : Ext H' ow' (upd H' Tt (.tup [.int (i : Nat), v])) (Ow.put ow' Tt .base) := Ext.new hn
    refine ⟨_, y, .tup ?_ (by show 2 ≤ sizeLine; decide) (.cons (.int _) (.cons (r1.mono ?_) .nil))⟩
    · rw [bs_of put_same, upd_same]
    · intro b o eb
      exact (y.stp (M := []) (n := 0)).bs b o (x.bs b o eb)
def sgnD (x : Str) : List D := x.cps.toList.map fun c => D.str ⟨#[c]⟩
theorem itd_str {x : Str} (hz : x.length ≤ sizeLine) : ItD K H ow (Its x) (sgnD x) := by
  have len : (sgnD x).length = x.cps.size := by unfold sgnD; rw [List.length_map, Array.length_toList]
  refine ⟨fun i d H' ow' _ e => ?_, fun i d H' ow' y H2 _ e q => ?_, fun H' ow' _ => by show x.cps.size ≤ _; omega, by rw [len]; exact hz⟩
  · have := (List.getElem?_eq_some_iff.mp e).1
    show i < x.cps.size
    omega
  · obtain ⟨rfl, c, e1, rfl⟩ := q
    unfold sgnD at e
    rw [List.getElem?_map, Array.getElem?_toList, e1] at e
    cases e
    exact ⟨ow', Ext.refl, .str _⟩
end
section
variable {X : Cx} {W : WX} {M Ma Mb : List Nat} {e a b tg : Expr} {q qa qb : SemE} {p pos : Pos}
def iSeq (q : SemE) (f : List D → List D) : SemI := fun env Q E => q env (fun t env1 => match t with
  | .fz (.nd .lst ds) => Q (f ds) env1
  | _ => False) E
def iSeqT (q : SemE) : SemI := fun env Q E => q env (fun t env1 => match t with
  | .fz (.nd .tup ds) => Q ds env1
  | _ => False) E
theorem fz_lst {K : PySem.W.Frag} {H : Hp} {ow : Ow} {l : Lab} {v : V} {ds : List D} (r : Tq K H ow l v (.fz (.nd .lst ds))) : ∃ a vs, v = .ref a ∧ SqL K (Bs H ow) a vs ∧ vs.length ≤ sizeLine ∧ Rps K (Bs H ow) vs ds := by
  cases Tq.fz_.mp r with
  | cell _ c r => exact ⟨_, _, rfl, .inl (.inl c.at_), c.sz, r⟩
theorem fz_tup {K : PySem.W.Frag} {H : Hp} {ow : Ow} {l : Lab} {v : V} {ds : List D} (r : Tq K H ow l v (.fz (.nd .tup ds))) : ∃ a vs, v = .ref a ∧ SqT K (Bs H ow) a vs ∧ vs.length ≤ sizeLine ∧ Rps K (Bs H ow) vs ds := by
  cases Tq.fz_.mp r with
  | tup c z r => exact ⟨_, _, rfl, sqT_of c, z, r⟩
  | cell hn _ _ => exact absurd rfl hn
theorem i_list (h : QE X W M e q) : QI X W M tg e (iSeq q id) := ⟨PI_imp (pi_list h.run) fun σ H R ⟨n, ow, env, Q, E, s, hq, k, x⟩ => ⟨n, ow, env, _, E, s, hq, fun v t H' ow' env' y s' o r z => by
  split at z
  · obtain ⟨a, vs, rfl, c, hz, r⟩ := fz_lst r
    exact ⟨a, rfl, ⟨vs, (bs_same _ _).seq c⟩, k _ _ H' ow' env' y s' o (itd_list c hz r) z⟩
  · exact z.elim, x⟩⟩
theorem i_tup (h : QE X W M e q) : QI X W M tg e (iSeqT q) := ⟨PI_imp (pi_tup h.run) fun σ H R ⟨n, ow, env, Q, E, s, hq, k, x⟩ => ⟨n, ow, env, _, E, s, hq, fun v t H' ow' env' y s' o r z => by
  split at z
  · obtain ⟨a, vs, rfl, c, hz, r⟩ := fz_tup r
    exact ⟨a, rfl, ⟨vs, sqT_mono (bs_same _ _) c⟩, k _ _ H' ow' env' y s' o (itd_tup c hz r) z⟩
  · exact z.elim, x⟩⟩
def iStr0 (q : SemE) : SemI := fun env Q E => q env (fun t env1 => match t with
  | .fz (.str x) => x.length ≤ sizeLine ∧ Q (sgnD x) env1
  | _ => False) E
theorem i_str (h : QE X W M e q) : QI X W M tg e (iStr0 q) := ⟨PI_imp (pi_str h.run) fun σ H R ⟨n, ow, env, Q, E, s, hq, k, x⟩ => ⟨n, ow, env, _, E, s, hq, fun v t H' ow' env' y s' o r z => by
  split at z
  · have := Tq.rd r
    cases this
    exact ⟨_, rfl, k _ _ H' ow' env' y s' o (itd_str z.1) z.2⟩
  · exact z.elim, x⟩⟩
theorem PA_imp {es : List Expr} {t t' : TA} (h : PA X es t) (f : ∀ σ H Q, t' σ H Q → t σ H Q) : PA X es t' := ⟨fun pos pins s σ H Q I q => h.run pos pins s σ H Q I (f _ _ _ q)⟩
def iRng (q : SemE) : SemI := fun env Q E => q env (fun t env1 => match t with
  | .fz (.int n) => n ≤ sizeLine ∧ -(2 ^ 62) ≤ n ∧ Q (rngD 0 n.toNat) env1
  | _ => False) E
theorem line62 : (sizeLine : Int) < 2 ^ 62 := by rw [sizeLine_eq]; decide
theorem i_rng (hg : Gl X "range") (hm : X.mg "range" = none) (h : QE X W M e q) (hs : starEach [e] X.env = [(false, eval e X.env)] := by rfl) : QI X W M tg (.Call (.Name "range" p) [e] [] pos) (iRng q) :=
  ⟨PI_imp (pi_range1 hg hm (pa_cons h.run pa_nil hs) hs) fun σ H R ⟨n, ow, env, Q, E, s, hq, k, x⟩ => ⟨n, ow, env, _, E, s, hq, fun v t H' ow' env' y s' o r z => by
    split at z
    · rename_i m
      have := Tq.rd r
      cases this
      have l62 := line62
      exact ⟨m, rfl, by omega, by omega, k _ _ H' ow' env' y s' o (itd_rng (by omega)) z.2.2⟩
    · exact z.elim, x⟩⟩
theorem i_enum {elts : List Expr} {kk : Nat} {tpos : Pos} (hg : Gl X "enumerate") (hm : X.mg "enumerate" = none) (h : QE X W M e q) (hs : starEach [e] X.env = [(false, eval e X.env)] := by rfl) : QI X W M (.Tuple elts kk tpos) (.Call (.Name "enumerate" p) [e] [] pos) (iSeq q enumD) :=
  ⟨PI_imp (pi_enum hg hm (pa_cons h.run pa_nil hs) hs) fun σ H R ⟨n, ow, env, Q, E, s, hq, k, x⟩ => ⟨n, ow, env, _, E, s, hq, fun v t H' ow' env' y s' o r z => by
    split at z
    · obtain ⟨a, vs, rfl, c, hz, r⟩ := fz_lst r
      exact ⟨a, vs, rfl, (bs_same _ _).seq c, k _ _ H' ow' env' y s' o (itd_enum c hz r) z⟩
    · exact z.elim, x⟩⟩
end

inductive ForG (g : SemG) (body : SemS) (D : EndsQ) (ds : List QV.D) (env1 : Env) : Prop
  | mk (h : ∃ I : Nat → Env → Prop, I 0 env1 ∧ (∀ j d env', ds[j]? = some d → I j env' → g d env' fun env2 => body { D with nx := I (j + 1), ct := I (j + 1), bk := D.nx } env2) ∧ ∀ env', I ds.length env' → D.nx env')
  | no (h : False)
theorem ForG.ex {g : SemG} {body : SemS} {D : EndsQ} {ds : List QV.D} {env1 : Env} : ForG g body D ds env1 → ∃ I : Nat → Env → Prop, I 0 env1 ∧ (∀ j d env', ds[j]? = some d → I j env' → g d env' fun env2 => body { D with nx := I (j + 1), ct := I (j + 1), bk := D.nx } env2) ∧ ∀ env', I ds.length env' → D.nx env'
  | .mk h => h
  | .no h => h.elim
def sFor (i : SemI) (g : SemG) (body : SemS) : SemS := fun D env => i env (fun ds env1 => ForG g body D ds env1) D.ex
inductive WhileG (t : SemT) (body : SemS) (D : EndsQ) (env : Env) : Prop
  | mk (h : ∃ I : Nat → Env → Prop, (∃ m, I m env) ∧ ∀ m env', I m env' → t env' (fun c env1 => (c = true → body { D with nx := fun e => ∃ m', m' < m ∧ I m' e, ct := fun e => ∃ m', m' < m ∧ I m' e, bk := D.nx } env1) ∧ (c = false → D.nx env1)) D.ex)
  | no (h : False)
theorem WhileG.ex {t : SemT} {body : SemS} {D : EndsQ} {env : Env} : WhileG t body D env → ∃ I : Nat → Env → Prop, (∃ m, I m env) ∧ ∀ m env', I m env' → t env' (fun c env1 => (c = true → body { D with nx := fun e => ∃ m', m' < m ∧ I m' e, ct := fun e => ∃ m', m' < m ∧ I m' e, bk := D.nx } env1) ∧ (c = false → D.nx env1)) D.ex
  | .mk h => h
  | .no h => h.elim
def putE (env : Env) : List Nat → List (Option T) → Env
  | i :: is, v :: vs => putE (env.set i v) is vs
  | _, _ => env
theorem ForG.fr {g : SemG} {body : SemS} {D : EndsQ} {ds : List QV.D} {env : Env} (ms : List Nat) (I : Nat → List (Option T) → Prop) (h0 : ∃ vs, env = putE env ms vs ∧ I 0 vs)
    (hs : ∀ j d vs, ds[j]? = some d → I j vs → g d (putE env ms vs) fun env2 => body { D with nx := fun e => ∃ us, e = putE env ms us ∧ I (j + 1) us, ct := fun e => ∃ us, e = putE env ms us ∧ I (j + 1) us, bk := D.nx } env2) (he : ∀ vs, I ds.length vs → D.nx (putE env ms vs)) : ForG g body D ds env :=
  .mk ⟨fun j e => ∃ vs, e = putE env ms vs ∧ I j vs, h0, fun j d env' hd ⟨vs, e, i⟩ => by subst e; exact hs j d vs hd i, fun env' ⟨vs, e, i⟩ => by subst e; exact he vs i⟩
theorem WhileG.fr {t : SemT} {body : SemS} {D : EndsQ} {env : Env} (ms : List Nat) (I : Nat → List (Option T) → Prop) (h0 : ∃ m vs, env = putE env ms vs ∧ I m vs)
    (hs : ∀ m vs, I m vs → t (putE env ms vs) (fun c env1 => (c = true → body { D with nx := fun e => ∃ m', m' < m ∧ ∃ us, e = putE env ms us ∧ I m' us, ct := fun e => ∃ m', m' < m ∧ ∃ us, e = putE env ms us ∧ I m' us, bk := D.nx } env1) ∧ (c = false → D.nx env1)) D.ex) : WhileG t body D env :=
  .mk ⟨fun m e => ∃ vs, e = putE env ms vs ∧ I m vs, h0, fun m env' ⟨vs, e, i⟩ => by subst e; exact hs m vs i⟩
theorem CutG.fr {q : SemS} {D : EndsQ} {env : Env} (ms : List Nat) (R : List (Option T) → Prop) (h : q { D with nx := fun e => ∃ us, e = putE env ms us ∧ R us } env) (he : ∀ vs, R vs → D.nx (putE env ms vs)) : CutG q D env :=
  .mk ⟨fun e => ∃ us, e = putE env ms us ∧ R us, h, fun env' ⟨vs, e, i⟩ => by subst e; exact he vs i⟩
section
variable {X : Cx} {W : WX} {M IO SS : List Nat} {iter tg c : Expr} {body : List Stmt} {i : SemI} {g : SemG} {b : SemS} {tc : SemT} {pos : Pos}
theorem s_for (hp : PassesOwn (model X.prog X.w) X.A X.env X.xe) (hc : X.calm = true) (hi : QI X W M tg iter i) (hg : QG X SS tg g) (hb : QSs X W IO body b) (hio : ∀ i ∈ IO, i ∉ SS := by decide) (hs : ∀ x, foldedSetIterable iter X.env x = pure x := by intro _; rfl) : QS X W IO (.For tg iter body [] pos) (sFor i g b) :=
  ⟨PS_imp (ps_for hp hc hi.run hg.run hb.run hs) fun D σ H ⟨ow, env, De, s, hq, k⟩ => ⟨0, ow, env, _, De.ex, s, hq, fun J ds H1 ow1 env1 y1 s1 _ J1 hF => by
    obtain ⟨I, i0, it, ie⟩ := hF.ex
    refine ⟨fun j m σ' H' => m = ds.length - j ∧ j ≤ ds.length ∧ ∃ ow' env', Fs H1 ow1 H' ow' ∧ Ios IO σ σ' ∧ StOk X.K H' ow' σ' env' ∧ I j env', ⟨ds.length, by simp, Nat.zero_le _, ow1, env1, Fs.refl, Ios.refl, s1, i0⟩, ?_⟩
    rintro j m σ' H' ⟨rfl, hj, ow', env', fs, io, s', ij⟩
    by_cases hlt : j < ds.length
    · have hd : ds[j]? = some ds[j] := by simp [hlt]
      refine .inr ⟨J1.go j _ H' ow' fs hd, fun σ2 H2 => ∃ ow2 env2, Fs H1 ow1 H2 ow2 ∧ Ios IO σ σ2 ∧ StOk X.K H2 ow2 σ2 env2 ∧ I (j + 1) env2, fun σ2 H2 ⟨ow2, env2, q⟩ => ⟨ds.length - (j + 1), by omega, rfl, hlt, ow2, env2, q⟩, fun x H2 yl => ?_⟩
      obtain ⟨ow2, ex, rx⟩ := J1.yld j _ H' ow' x H2 fs hd yl
      have y2 : Stp [] 0 H' ow' H2 ow2 := ex.stp
      refine ⟨ow2, env', _, _, s'.stp0 y2, rx, it j _ env' hd ij, fun σ3 env3 tc3 _ s3 z3 => ?_⟩
      have io3 := tc3.ios hio
      have fs2 := fs.trans y2.fs
      refine ⟨ow2, env3, _, s3, z3, ⟨fun σ4 H4 ow4 env4 f4 i4 s4 z4 => ⟨ow4, env4, fs2.trans f4, (io.trans io3).trans i4, s4, z4⟩, (k.rt.step (y1.fs.trans fs2) (io.trans io3)), (k.nx.step (y1.fs.trans fs2) (io.trans io3)), fun σ4 H4 ow4 env4 f4 i4 s4 z4 => ⟨ow4, env4, fs2.trans f4, (io.trans io3).trans i4, s4, z4⟩, k.ex.step (y1.fs.trans fs2) (io.trans io3)⟩⟩
    · have e : j = ds.length := by omega
      subst e
      exact .inl ⟨J1.stop H' ow' fs, k.nx σ' H' ow' env' (y1.fs.trans fs) io s' (ie env' ij)⟩, k.ex.xk⟩⟩
end
end QV

set_option Elab.async false
set_option linter.all false
set_option maxRecDepth 100000
set_option maxHeartbeats 2000000
namespace QV
open PySem PySem.Spec PyProof.Rows L2

structure FnG (P : Program) (w : World) (K : PySem.W.Frag) (mg : Str → Option Value) (base : Heap) (k : Nat) (f : Addr) (fd : FuncData) (ps : List Str) (sp : Sp) : Prop where
  len : ∀ vs H Q E, sp vs H Q E → vs.length = ps.length
  run : ∀ (A : Around) (outer : List PySem.Env) (s : Shared) (H : Hp) (args : Args) (us : List Value) (vs : List V) (Q : VK) (E : XK), Room k A → A.guards = some [] → Env0 P w K mg base A outer s H → BindsTo s fd args (ps.zip us) → Vals vs us → sp vs H Q E →
    codeAny (model P w) A (.call (.ref f) args) (CR (L2.CX P w) outer P w H s Q E) s
section
variable {P : Program} {w : World} {K : PySem.W.Frag} {mg : Str → Option Value} {base : Heap}
theorem fnG_of {k : Nat} {x qual : Str} {st : Stmt} {f : Addr} {fd : FuncData} {N ps : List Str} {sp : Sp} (F : Fun K x qual st f fd) (S : FnScope N ps (defScope st)) (len : ∀ vs H Q E, sp vs H Q E → vs.length = ps.length)
    (hb : ∀ (cdv : Value) (A : Around) (outer : List PySem.Env) (s : Shared) (H : Hp) (vs : List V) (Q : VK) (E : XK), Room k (A.deeper (envOfC qual (defScope st) s.heap.objs.size f cdv)) → A.guards = some [] → sp vs H Q E →
      ∃ t, PSs (cxOf (L2.CX P w) P w K mg base N qual (defScope st) f cdv A outer s H E) (defBody st) t ∧ t { nx := fun _ H' => Q .non H', rt := Q } (L2.start N vs) H) : FnG P w K mg base (k + 1) f fd ps sp := by
  obtain ⟨oc, od, kV, doc, pm, an, cdv, ct, osl, rfl, lk, hcd⟩ := F.ex
  constructor
  · exact len
  · intro A outer s H args us vs Q E hr hG e0 hbind rv hsp
    have hlen := len _ _ _ _ hsp
    have kin : K.In s.heap := e0.mod.kin.keeps fun b o e => (e0.bs b o e).1
    have nl : s.heap.NoLimit := e0.mod.nolimit.keeps fun b o e => (e0.bs b o e).1
    have kinds : ∀ y ∈ ps.zip us, (defScope st).names.lookup y.1 = some .local ∨ ((defScope st).names.lookup y.1 = some .cell ∧ ((cellsFrom (s.heap.objs.size + 1) (defScope st).names []).lookup y.1).isSome = true) := by
      rintro ⟨m, u⟩ hy
      rcases S.par m (List.of_mem_zip hy).1 with q | q
      · exact .inl q
      · exact .inr ⟨q, PySem.W.cellsFrom_some _ _ _ (.inl q)⟩
    apply codeAny_call_function hr.depth (kin _ _ lk) rfl S.co S.gen rfl (PySem.W.codeRec_of kin hcd) (hbind _ _ _ _ _)
    refine wpAny_newFunctionEnv_cells S.kind kinds ?_
    rintro env rfl s1 ic
    refine ⟨nl.keeps ic.toInCall.keep, codeAny_func ?_⟩
    obtain ⟨t, ht, q⟩ := hb cdv A outer s H vs Q E (hr.deeper _) hG hsp
    have I0 : Inv (cxOf (L2.CX P w) P w K mg base N qual (defScope st) f cdv A outer s H E) [] (L2.start N vs) H s1 := inv_start S hr.hd e0 hlen rv ic
    refine wpAny_mono (ht.run [] s1 (L2.start N vs) H _ I0 q) ?_ fun _ _ z => z
    intro fl s' z
    cases fl with
    | ret u =>
      obtain ⟨v, σ', H', J, r, qq⟩ := z
      exact ⟨v, H', J.os, J.bare, J.base, J.hok, r, qq⟩
    | next =>
      obtain ⟨σ', H', J, qq⟩ := z
      exact ⟨.non, H', J.os, J.bare, J.base, J.hok, rfl, qq⟩
    | brk =>
      obtain ⟨_, _, _, qq⟩ := z
      exact qq.elim
    | cont =>
      obtain ⟨_, _, _, qq⟩ := z
      exact qq.elim
theorem FnG.mono {j k : Nat} {f : Addr} {fd : FuncData} {ps : List Str} {sp : Sp} (F : FnG P w K mg base j f fd ps sp) (h : j ≤ k) : FnG P w K mg base k f fd ps sp := ⟨F.len, fun A outer s H args us vs Q E hr => F.run A outer s H args us vs Q E (hr.mono h)⟩
theorem FnG.imp {k : Nat} {f : Addr} {fd : FuncData} {ps : List Str} {sp sp' : Sp} (F : FnG P w K mg base k f fd ps sp) (h : ∀ vs H Q E, sp' vs H Q E → sp vs H Q E) : FnG P w K mg base k f fd ps sp' :=
  ⟨fun vs H Q E q => F.len vs H Q E (h _ _ _ _ q), fun A outer s H args us vs Q E hr hg he hb hv hs => F.run A outer s H args us vs Q E hr hg he hb hv (h _ _ _ _ hs)⟩
end
section
variable {X : Cx} {W : WX} {k : Nat} {f C : Addr} {fd : FuncData} {ps : List Str} {sp : Sp} {x m : Str} {p pos apos : Pos} {e o : Expr} {es : List Expr} {ta : TE} {t : TA}
theorem runG {pins : List (Addr × Obj)} {σ : L2.St} {H : Hp} {s : Shared} {Q : VK} {us : List Value} {vs : List V} (F : FnG X.prog X.w X.K X.mg X.base k f fd ps sp) (hr : Room k X.A) (hG : X.A.guards = some []) (hb : Binds X.K fd ps []) (tk : L2.Takes X W)
    (I : Inv X pins σ H s) (r : Vals vs us) (h : sp vs H Q fun cls d H' => W cls d σ H') : wpAny (model X.prog X.w) X.A (call (.ref f) us) (EP X pins σ Q) X.xe s := by
  have hl : (us ++ []).length = ps.length := by rw [List.append_nil, ← r.length]; exact F.len _ _ _ _ h
  have hb2 : BindsTo s fd ⟨us, []⟩ (ps.zip us) := by have := hb s us I.kIn hl; rwa [List.append_nil] at this
  apply wpAny_call
  refine codeAny_mono (F.run X.A X.stack s H ⟨us, []⟩ us vs Q _ hr hG I.env0 hb2 r h) ?_
  intro res s' z
  cases res with
  | error ex => exact tk _ _ (XE.of_call I (fun _ _ _ q => q) z)
  | ok fl =>
    cases fl with
    | ret u => exact I.after z
    | next => exact z.elim
    | brk => exact z.elim
    | cont => exact z.elim
theorem pe_callG (F : FnG X.prog X.w X.K X.mg X.base k f fd ps sp) (hr : Room k X.A) (hG : X.A.guards = some []) (hg : Gl X x) (hm : X.mg x = some (.ref f)) (hk : PySem.W.keepIn X.K (.ref f) = true) (hb : Binds X.K fd ps []) (tk : L2.Takes X W)
    (ha : PA X (e :: es) t) (hdb : (x == ("__debug__" : Str)) = false := by decide) (he : starEach (e :: es) X.env = (false, eval e X.env) :: starEach es X.env := by rfl) (hpl : (backTo pos (starEach es X.env)).any (·.1) = false := by rfl) :
    PE X (.Call (.Name x p) (e :: es) [] pos) (fun σ H Q => t σ H fun vs H1 => sp vs H1 Q fun cls d H' => W cls d σ H') := by
  constructor
  intro pins s σ H Q I h
  apply wpAny_Call_Name_kw
  refine ld_glob I hg hm ?_ hdb
  refine PySem.W.callWith_K (h₀ := X.base) I.ok.mod.kin hk ?_ he hpl
  refine thn (ha.run pos pins s σ H _ I h) ?_
  rintro us s1 ⟨vs, H1, I1, r, q⟩
  exact ⟨I1.kIn, runG F hr hG hb tk I1 r q⟩
end

abbrev SemF := List T → (T → List T → Prop) → (Rz → List T → Prop) → Prop
def spQ (K : PySem.W.Frag) (n : Nat) (io : List Nat) (spec : SemF) : Sp := fun vs H Qv E => vs.length = n ∧ ∃ (ow : Ow) (args : List T) (Q : T → List T → Prop) (EE : Rz → List T → Prop),
  args.length = n ∧ (∀ (i : Nat) (t : T), args[i]? = some t → ∃ v, vs[i]? = some v ∧ Tq K H ow (.sl i) v t) ∧ spec args Q EE ∧
  (∀ (v : V) (t : T) (H' : Hp) (ow' : Ow) (outs : List T), Fs H ow H' ow' → Tq K H' ow' (.tm 0) v t → outs.length = io.length → (∀ (j i : Nat) (u : T), io[j]? = some i → outs[j]? = some u → ∃ v, vs[i]? = some v ∧ Tq K H' ow' (.sl i) v u) → Q t outs → Qv v H') ∧
  (∀ (r : Rz) (d : Option Addr) (H' : Hp) (ow' : Ow) (outs : List T), Fs H ow H' ow' → Rzp K H' ow' d r → outs.length = io.length → (∀ (j i : Nat) (u : T), io[j]? = some i → outs[j]? = some u → ∃ v, vs[i]? = some v ∧ Tq K H' ow' (.sl i) v u) → EE r outs → E (.ref r.C) d H')
def outsOf : List Nat → Env → Option (List T)
  | [], _ => some []
  | i :: is, env => match env[i]? with
    | some (some t) => match outsOf is env with
      | some ts => some (t :: ts)
      | none => none
    | _ => none
theorem outs_get : ∀ {io : List Nat} {env : Env} {ts : List T}, outsOf io env = some ts → ts.length = io.length ∧ ∀ (j i : Nat) (u : T), io[j]? = some i → ts[j]? = some u → env[i]? = some (some u)
  | [], env, ts, h => by cases h; exact ⟨rfl, fun j i u e => by simp at e⟩
  | i :: is, env, ts, h => by
    unfold outsOf at h
    split at h
    · rename_i t e
      split at h
      · rename_i us e2
        cases h
        obtain ⟨h1, h2⟩ := outs_get e2
        refine ⟨by rw [List.length_cons, List.length_cons, h1], fun j i' u ej eu => ?_⟩
        cases j with
        | zero => simp at ej eu; subst ej eu; exact e
        | succ j => exact h2 j i' u (by simpa using ej) (by simpa using eu)
      · cases h
    · cases h
def EndsF (io : List Nat) (Q : T → List T → Prop) (EE : Rz → List T → Prop) : EndsQ where
  nx := fun env => match outsOf io env with
    | some ts => Q (.fz .non) ts
    | none => False
  rt := fun t env => match outsOf io env with
    | some ts => Q t ts
    | none => False
  bk := fun _ => False
  ct := fun _ => False
  ex := fun r env => match outsOf io env with
    | some ts => EE r ts
    | none => False
def env0 (N : Nat) (args : List T) : Env := args.map some ++ List.replicate (N - args.length) none
def QFn (P : Program) (w : World) (K : PySem.W.Frag) (mg : Str → Option Value) (base : Heap) (k : Nat) (f : Addr) (fd : FuncData) (ps : List Str) (io : List Nat) (spec : SemF) : Prop := FnG P w K mg base k f fd ps (spQ K ps.length io spec)
section
variable {P : Program} {w : World} {K : PySem.W.Frag} {mg : Str → Option Value} {base : Heap}
theorem QFn.mono {j k : Nat} {f : Addr} {fd : FuncData} {ps : List Str} {io : List Nat} {spec : SemF} (F : QFn P w K mg base j f fd ps io spec) (h : j ≤ k) : QFn P w K mg base k f fd ps io spec := FnG.mono F h
theorem QFn.imp {k : Nat} {f : Addr} {fd : FuncData} {ps : List Str} {io : List Nat} {spec spec' : SemF} (F : QFn P w K mg base k f fd ps io spec) (h : ∀ a Q E, spec' a Q E → spec a Q E) : QFn P w K mg base k f fd ps io spec' :=
  FnG.imp F fun vs H Qv E ⟨hl, ow, args, Q, EE, h1, h2, h3, h4, h5⟩ => ⟨hl, ow, args, Q, EE, h1, h2, h _ _ _ h3, h4, h5⟩
theorem start_get {N : List Str} {vs : List V} {i : Nat} {v : V} (h : vs[i]? = some v) : (L2.start N vs)[i]? = some (some v) := by
  unfold L2.start
  have hi : i < vs.length := (List.getElem?_eq_some_iff.mp h).1
  rw [List.getElem?_append_left (by simpa using hi), List.getElem?_map, h]
  rfl
theorem env0_get {N : Nat} {args : List T} {i : Nat} {t : T} (h : (env0 N args)[i]? = some (some t)) : args[i]? = some t := by
  unfold env0 at h
  by_cases hi : i < args.length
  · rw [List.getElem?_append_left (by simpa using hi), List.getElem?_map] at h
    cases e : args[i]? with
    | none => rw [e] at h; cases h
    | some u => rw [e] at h; cases h; rfl
  · rw [List.getElem?_append_right (by simpa using hi), List.getElem?_replicate] at h
    split at h <;> cases h
theorem qfn_of {k : Nat} {x qual : Str} {st : Stmt} {f : Addr} {fd : FuncData} {N ps : List Str} {io : List Nat} {spec : SemF} (F : Fun K x qual st f fd) (S : FnScope N ps (defScope st)) (hio : (io.all fun i => decide (i < ps.length)) = true) (hpN : ps.length ≤ N.length)
    (hb : ∀ (cdv : Value) (A : Around) (outer : List PySem.Env) (s : Shared) (H : Hp) (E : XK) (W : WX), Room k (A.deeper (envOfC qual (defScope st) s.heap.objs.size f cdv)) → A.guards = some [] → L2.Takes (cxOf (L2.CX P w) P w K mg base N qual (defScope st) f cdv A outer s H E) W →
      PassesOwn (model P w) (A.deeper (envOfC qual (defScope st) s.heap.objs.size f cdv)) (envOfC qual (defScope st) s.heap.objs.size f cdv) (cxOf (L2.CX P w) P w K mg base N qual (defScope st) f cdv A outer s H E).xe →
      ∃ q, QSs (cxOf (L2.CX P w) P w K mg base N qual (defScope st) f cdv A outer s H E) W io (defBody st) q ∧ ∀ args Q E, args.length = ps.length → spec args Q E → q (EndsF io Q E) (env0 N.length args)) : QFn P w K mg base (k + 1) f fd ps io spec := by
  refine fnG_of F S (fun vs H Q E h => h.1) fun cdv A outer s H vs Qv E hr hG ⟨hl, ow, args, Q, EE, ha, h2, h3, h4, h5⟩ => ?_
  obtain ⟨q, hq, hs⟩ := hb cdv A outer s H E (fun cls d σ H' => E cls d H') hr hG (takes_of rfl rfl rfl rfl) (passes_of rfl)
  refine ⟨_, hq.run, ow, env0 N.length args, EndsF io Q EE, ⟨?_, fun i t e => ?_⟩, hs args Q EE ha h3, ?_⟩
  · unfold env0 L2.start
    rw [List.length_append, List.length_append, List.length_map, List.length_map, List.length_replicate, List.length_replicate, ha, hl]
  · obtain ⟨v, e1, r⟩ := h2 i t (env0_get e)
    exact ⟨v, start_get e1, r⟩
  · have outs : ∀ {σ' : L2.St} {H' : Hp} {ow' : Ow} {env' : Env} {ts : List T}, Ios io (L2.start N vs) σ' → StOk K H' ow' σ' env' → outsOf io env' = some ts → ts.length = io.length ∧ ∀ (j i : Nat) (u : T), io[j]? = some i → ts[j]? = some u → ∃ v, vs[i]? = some v ∧ Tq K H' ow' (.sl i) v u := fun {σ' H' ow' env' ts} io' s' e => by
      obtain ⟨g1, g2⟩ := outs_get e
      refine ⟨g1, fun j i u ej eu => ?_⟩
      obtain ⟨v, e1, r⟩ := s'.at_ i u (g2 j i u ej eu)
      have mi : i ∈ io := List.mem_of_getElem? ej
      rw [io' i mi] at e1
      have hi : i < vs.length := by rw [hl]; exact of_decide_eq_true (List.all_eq_true.mp hio i mi)
      have e2 : vs[i]? = some vs[i] := by simp [hi]
      rw [start_get e2] at e1
      cases e1
      exact ⟨_, e2, r⟩
    refine ⟨fun σ' H' ow' env' fs i s' z => ?_, fun v t σ' H' ow' env' fs i s' r z => ?_, fun _ _ _ _ _ _ _ z => z.elim, fun _ _ _ _ _ _ _ z => z.elim, fun r d σ' H' ow' env' fs i s' rz z => ?_⟩
    · show Qv .non H'
      simp only [EndsF] at z
      split at z
      · rename_i ts e
        obtain ⟨g1, g2⟩ := outs i s' e
        exact h4 _ _ H' ow' ts fs (Tq.fz_.mpr .non) g1 g2 z
      · exact z.elim
    · simp only [EndsF] at z
      split at z
      · rename_i ts e
        obtain ⟨g1, g2⟩ := outs i s' e
        exact h4 _ _ H' ow' ts fs r g1 g2 z
      · exact z.elim
    · simp only [EndsF] at z
      split at z
      · rename_i ts e
        obtain ⟨g1, g2⟩ := outs i s' e
        exact h5 r d H' ow' ts fs rz g1 g2 z
      · exact z.elim
end
end QV

set_option Elab.async false
set_option linter.all false
set_option maxRecDepth 100000
set_option maxHeartbeats 2000000
namespace QV
open PySem L2

abbrev SemD := Env → (List D → Env → Prop) → XQ → Prop
def tA (K : PySem.W.Frag) (W : WX) (M : List Nat) (ks : List (Option Nat)) (q : SemD) : TA := fun σ H Qv => ∃ (n : Nat) (ow : Ow) (env : Env) (Q : List D → Env → Prop) (E : XQ), StOk K H ow σ env ∧ q env Q E ∧
  (∀ (vs : List V) (ds : List D) (H' : Hp) (ow' : Ow) (env' : Env), Stp M n H ow H' ow' → StOk K H' ow' σ env' → Out M env env' → vs.length = ks.length → ds.length = ks.length →
    (∀ (j : Nat) (v : V) (d : D), vs[j]? = some v → ds[j]? = some d → (ks[j]? = some none → Rp K (Bs H' ow') v d) ∧ ∀ i, ks[j]? = some (some i) → σ[i]? = some (some v)) → Q ds env' → Qv vs H') ∧ Xk K W M σ H n ow env E
structure QA (X : Cx) (W : WX) (M : List Nat) (ks : List (Option Nat)) (es : List Expr) (q : SemD) : Prop where
  run : PA X es (tA X.K W M ks q)
def aNil : SemD := fun env Q _ => Q [] env
def aCons (q : SemE) (qs : SemD) : SemD := fun env Q E => q env (fun t env1 => match t with
  | .fz d => qs env1 (fun ds env2 => Q (d :: ds) env2) E
  | _ => False) E
def aOwn (i : Nat) (qs : SemD) : SemD := fun env Q E => match env[i]? with
  | some (some _) => qs env (fun ds env2 => Q (.non :: ds) env2) E
  | _ => False
section
variable {X : Cx} {W : WX} {M Ma Mb : List Nat} {e : Expr} {es : List Expr} {q : SemE} {qs : SemD} {ks : List (Option Nat)} {pos : Pos}
theorem a_nil : QA X W [] [] [] aNil := ⟨PA_imp pa_nil fun σ H Qv ⟨n, ow, env, Q, E, s, hq, k, x⟩ => k [] [] H ow env Stp.refl s Out.refl rfl rfl (fun j v d h => by simp at h) hq⟩
theorem a_cons (h1 : QE X W Ma e q) (h2 : QA X W Mb ks es qs) (hs : starEach (e :: es) X.env = (false, eval e X.env) :: starEach es X.env := by rfl) : QA X W (Ma ++ Mb) (none :: ks) (e :: es) (aCons q qs) :=
  ⟨PA_imp (pa_cons h1.run h2.run hs) fun σ H Qv ⟨n, ow, env, Q, E, s, hq, k, x⟩ => ⟨n, ow, env, _, E, s, hq, fun v t H1 ow1 env1 y1 s1 o1 r1 z => by
    split at z
    · refine ⟨n + 1, ow1, env1, _, E, s1, z, fun vs ds H2 ow2 env2 y2 s2 o2 l1 l2 hv z2 => ?_, x.step y1 o1 subl subr (Nat.le_refl _) (Nat.le_succ _)⟩
      refine k _ _ H2 ow2 env2 (y1.trans y2 subl subr (Nat.le_refl _) (Nat.le_succ _)) s2 (o1.trans o2 subl subr) (by rw [List.length_cons, List.length_cons, l1]) (by rw [List.length_cons, List.length_cons, l2]) (fun j v' d' ev ed => ?_) z2
      cases j with
      | zero =>
        simp at ev ed
        subst ev ed
        exact ⟨fun _ => (Tq.fz_.mp r1).mono y2.bs, fun i hi => by simp at hi⟩
      | succ j => exact hv j v' d' (by simpa using ev) (by simpa using ed)
    · exact z.elim, fun r d H' ow' env' y s' o => x r d H' ow' env' (y.mono subl (Nat.le_refl _)) s' (o.mono subl)⟩⟩
theorem a_own (i : Nat) {x : Str} {px : Pos} (h2 : QA X W Mb ks es qs) (hN : X.N[i]? = some x := by rfl) (hv : Vis X.env.scope x := by first | exact Or.inl rfl | exact Or.inr (Or.inl rfl) | exact Or.inr (Or.inr rfl)) (hd : (x == ("__debug__" : Str)) = false := by decide)
    (hcd : (x == ("__classdict__" : Str)) = false := by decide) (hs : starEach (.Name x px :: es) X.env = (false, eval (.Name x px) X.env) :: starEach es X.env := by rfl) : QA X W Mb (some i :: ks) (.Name x px :: es) (aOwn i qs) :=
  ⟨PA_imp (pa_cons (pe_var (i := i) hN hv hd hcd) h2.run hs) fun σ H Qv ⟨n, ow, env, Q, E, s, hq, k, x⟩ => by
    unfold aOwn at hq
    split at hq
    · rename_i t e
      obtain ⟨v, e1, r⟩ := s.at_ i t e
      refine ⟨v, e1, n, ow, env, _, E, s, hq, fun vs ds H2 ow2 env2 y2 s2 o2 l1 l2 hv z2 => ?_, x⟩
      refine k _ _ H2 ow2 env2 y2 s2 o2 (by rw [List.length_cons, List.length_cons, l1]) (by rw [List.length_cons, List.length_cons, l2]) (fun j v' d' ev ed => ?_) z2
      cases j with
      | zero =>
        simp at ev ed
        subst ev ed
        exact ⟨fun h => by simp at h, fun i' hi => by simp at hi; subst hi; exact e1⟩
      | succ j => exact hv j v' d' (by simpa using ev) (by simpa using ed)
    · exact hq.elim⟩
theorem rps_of {K : PySem.W.Frag} {B : Hp} : ∀ {n : Nat} {vs : List V} {ds : List D}, vs.length = n → ds.length = n → (∀ (j : Nat) (v : V) (d : D), vs[j]? = some v → ds[j]? = some d → Rp K B v d) → Rps K B vs ds
  | 0, [], [], _, _, _ => .nil
  | n + 1, v :: vs, d :: ds, h1, h2, h => .cons (h 0 v d rfl rfl) (rps_of (n := n) (by simpa using h1) (by simpa using h2) fun j v' d' e1 e2 => h (j + 1) v' d' (by simpa using e1) (by simpa using e2))
theorem tA_data {K : PySem.W.Frag} {σ : L2.St} {H : Hp} {Qv : List V → Hp → Prop} {m : Nat} {ow : Ow} {env : Env} {Q : List D → Env → Prop} {E : XQ} (hk : (ks.all fun x => x.isNone) = true) (s : StOk K H ow σ env) (hq : qs env Q E) (x : Xk K W M σ H m ow env E)
    (k : ∀ (vs : List V) (ds : List D) (H' : Hp) (ow' : Ow) (env' : Env), Stp M m H ow H' ow' → StOk K H' ow' σ env' → Out M env env' → vs.length = ks.length → Rps K (Bs H' ow') vs ds → Q ds env' → Qv vs H') : tA K W M ks qs σ H Qv :=
  ⟨m, ow, env, Q, E, s, hq, fun vs ds H' ow' env' y s' o l1 l2 hv z => k vs ds H' ow' env' y s' o l1 (rps_of l1 l2 fun j v d e1 e2 => (hv j v d e1 e2).1 (by
    have hj : j < ks.length := by have := (List.getElem?_eq_some_iff.mp e1).1; omega
    have e : ks[j]? = some ks[j] := by simp [hj]
    have hn := List.all_eq_true.mp hk ks[j] (List.getElem_mem hj)
    rw [e]
    cases e3 : ks[j] with
    | none => rfl
    | some i => rw [e3] at hn; cases hn)) z, x⟩
def sLst (qs : SemD) : SemE := fun env Q E => qs env (fun ds env1 => Q (.ow .lst ds) env1) E
def sTup (qs : SemD) : SemE := fun env Q E => qs env (fun ds env1 => Q (.fz (.nd .tup ds)) env1) E
theorem q_lst (h : QA X W M ks es qs) (hk : (ks.all fun x => x.isNone) = true := by rfl) (hz : ks.length ≤ sizeLine := by decide) : QE X W M (.List es pos) (sLst qs) :=
  ⟨PE_imp (pe_lst h.run) fun σ H Qv ⟨n, ow, env, Q, E, s, hq, k, x⟩ => tA_data hk s hq x fun vs ds H' ow' env' y s' o l1 r z => ⟨by omega, fun p hp =>
      k _ _ _ (Ow.put ow' p (.tm n)) env' (y.trans (Stp.new hp) (fun _ h => h) nilsub (Nat.le_refl _) (Nat.le_refl _)) (s'.stp0 (n := 0) (Stp.new hp)) o (Tq.newL hp (by omega) r) z⟩⟩
theorem q_tup {x1} (h : QA X W M ks es qs) (hk : (ks.all fun x => x.isNone) = true := by rfl) (hz : ks.length ≤ sizeLine := by decide) : QE X W M (.Tuple es x1 pos) (sTup qs) :=
  ⟨PE_imp (pe_tup h.run) fun σ H Qv ⟨n, ow, env, Q, E, s, hq, k, x⟩ => tA_data hk s hq x fun vs ds H' ow' env' y s' o l1 r z => ⟨by omega, fun p hp =>
    k _ _ _ (Ow.put ow' p .base) env' (y.trans (Stp.new hp) (fun _ h => h) nilsub (Nat.le_refl _) (Nat.le_refl _)) (s'.stp0 (n := 0) (Stp.new hp)) o
      (Tq.fz_.mpr (.tup (by rw [bs_of put_same, upd_same]) (by omega) (r.mono (Stp.bs (M := []) (n := 0) (Stp.new hp))))) z⟩⟩
def OpL (K : PySem.W.Frag) (r : List V → Hp → VK → Prop) (g : List D → (T → Prop) → Prop) : Prop := ∀ (H : Hp) (ow : Ow) (n : Nat) (vs : List V) (ds : List D) (Q : T → Prop) (Qv : VK), Rps K (Bs H ow) vs ds → g ds Q →
  (∀ v w H' ow', Stp [] n H ow H' ow' → Tq K H' ow' (.tm n) v w → Q w → Qv v H') → r vs H Qv
def sB (qs : SemD) (g : List D → (T → Prop) → Prop) : SemE := fun env Q E => qs env (fun ds env1 => g ds fun w => Q w env1) E
theorem opl_run {K : PySem.W.Frag} {r : List V → Hp → VK → Prop} {g : List D → (T → Prop) → Prop} (hg : OpL K r g) (hk : (ks.all fun x => x.isNone) = true) {σ : L2.St} {H : Hp} {Qv : VK} (h : tQ K W M (sB qs g) σ H Qv) : tA K W M ks qs σ H fun vs H1 => r vs H1 Qv := by
  obtain ⟨n, ow, env, Q, E, s, hq, k, x⟩ := h
  exact tA_data hk s hq x fun vs ds H' ow' env' y s' o l1 rr z => hg H' ow' n vs ds _ Qv rr z fun v w H2 ow2 y2 r2 z2 => k v w H2 ow2 env' (y.trans y2 (fun _ h => h) nilsub (Nat.le_refl _) (Nat.le_refl _)) (s'.stp0 y2) o r2 z2
variable {id T' : String} {r : List V → Hp → VK → Prop} {x : Str} {p : Pos} {pa : SemP} {root : Option Nat}
theorem q_bl_ {g : List D → (T → Prop) → Prop} (hc : CallR X (.builtin id) r) (hr : OpL X.K r g) (hg : Gl X x) (hm : X.mg x = none) (hv : bootBuiltins x = some (.builtin id)) (ha : QA X W M ks (e :: es) qs) (hk : (ks.all fun x => x.isNone) = true := by rfl) (hn : x ≠ "__name__" := by decide) (hdb : (x == ("__debug__" : Str)) = false := by decide)
    (he : starEach (e :: es) X.env = (false, eval e X.env) :: starEach es X.env := by rfl) (hpl : (backTo pos (starEach es X.env)).any (·.1) = false := by rfl) : QE X W M (.Call (.Name x p) (e :: es) [] pos) (sB qs g) :=
  ⟨PE_imp (pe_callB hc hg hm hv ha.run hn hdb he hpl) fun _ _ _ h => opl_run hr hk h⟩
theorem op1_run {K : PySem.W.Frag} {g : T → (T → Prop) → Prop} (hr : Op1 K (fun x H Q => r [x] H Q) g) {σ : L2.St} {H : Hp} {Qv : VK} (h : tQ K W M (s1 pa g) σ H Qv) : tCB r (tCons (tP K W M root pa) tNil) σ H Qv := by
  obtain ⟨n, ow, env, Q, E, s, hq, k, x⟩ := h
  exact ⟨n, ow, env, _, E, s, hq, fun v t pt H' ow' env' y1 s' o r q => hr H' ow' n v t _ Qv (r.ro s') q fun v' w H2 ow2 y2 r3 q3 => k v' w H2 ow2 env' (y1.trans y2 (fun _ h => h) nilsub (Nat.le_refl _) (Nat.le_refl _)) (s'.stp0 y2) o r3 q3, x⟩
theorem q_b1 {g : T → (T → Prop) → Prop} (hc : CallR X (.builtin id) r) (hr : Op1 X.K (fun x H Q => r [x] H Q) g) (hg : Gl X x) (hm : X.mg x = none) (hv : bootBuiltins x = some (.builtin id)) (ha : QP X W M root e pa) (hn : x ≠ "__name__" := by decide) (hdb : (x == ("__debug__" : Str)) = false := by decide)
    (he : starEach [e] X.env = (false, eval e X.env) :: starEach [] X.env := by rfl) (hpl : (backTo pos (starEach [] X.env)).any (·.1) = false := by rfl) : QE X W M (.Call (.Name x p) [e] [] pos) (s1 pa g) :=
  ⟨PE_imp (pe_callB hc hg hm hv (pa_cons ha.run pa_nil he) hn hdb he hpl) fun _ _ _ h => op1_run hr h⟩
theorem q_ty1 {g : T → (T → Prop) → Prop} (hc : CallR X (.type T') r) (hr : Op1 X.K (fun x H Q => r [x] H Q) g) (hg : Gl X x) (hm : X.mg x = none) (hv : bootBuiltins x = some (.type T')) (ha : QP X W M root e pa) (hn : x ≠ "__name__" := by decide) (hdb : (x == ("__debug__" : Str)) = false := by decide)
    (he : starEach [e] X.env = (false, eval e X.env) :: starEach [] X.env := by rfl) (hpl : (backTo pos (starEach [] X.env)).any (·.1) = false := by rfl) : QE X W M (.Call (.Name x p) [e] [] pos) (s1 pa g) :=
  ⟨PE_imp (pe_callTy hc hg hm hv (pa_cons ha.run pa_nil he) hn hdb he hpl) fun _ _ _ h => op1_run hr h⟩
end

def lenG (t : T) (Q : T → Prop) : Prop := match t with
  | .fz (.str x) => x.length ≤ sizeLine ∧ Q (.fz (.int x.length))
  | .fz (.nd .lst ds) => Q (.fz (.int ds.length))
  | .fz (.nd .tup ds) => Q (.fz (.int ds.length))
  | .ow .lst ds => Q (.fz (.int ds.length))
  | .ow .tup ds => Q (.fz (.int ds.length))
  | .nd .lst ts => Q (.fz (.int ts.length))
  | .nd .tup ts => Q (.fz (.int ts.length))
  | _ => False
section
variable {K : PySem.W.Frag} {X : Cx}
def rLenAll (K : PySem.W.Frag) : List V → Hp → VK → Prop := fun xs H Q => (∃ p ys, xs = [.ref p] ∧ (SqL K H p ys ∨ SqT K H p ys) ∧ Q (.int ys.length) H) ∨ (∃ z, xs = [.str z] ∧ z.length ≤ sizeLine ∧ Q (.int z.length) H)
theorem c_len : CallR X (.builtin "len") (rLenAll X.K) := call_len_seq.or call_len_str
theorem g_len : Op1 K (fun x H Q => rLenAll K [x] H Q) lenG := by
  intro H ow n x t Q Qv rx h k
  have fin : ∀ {a : Addr} {vs : List V} {m : Nat}, x = .ref a → (SqL K H a vs ∨ SqT K H a vs) → vs.length = m → Q (.fz (.int m)) → rLenAll K [x] H Qv := fun {a vs m} e c l q => by
    subst e l
    exact .inl ⟨a, vs, rfl, c, k _ _ H ow Stp.refl (Tq.fz_.mpr (.int _)) q⟩
  have kid : ∀ {kd : Kd} {ts : List T}, t = .nd kd ts → ∃ a dx vs, x = .ref a ∧ Cell H a dx kd vs ∧ vs.length = ts.length := fun {kd ts} e => by
    subst e
    obtain ⟨l, S, r⟩ := rx
    cases r with
    | nd c _ r => exact ⟨_, _, _, rfl, c, r.len⟩
  unfold lenG at h
  split at h
  · exact .inr ⟨_, by rw [rx.str], h.1, k _ _ H ow Stp.refl (Tq.fz_.mpr (.int _)) h.2⟩
  · obtain ⟨a, vs, e, c, _, r⟩ := rx.lst rfl
    exact fin e (.inl (.inl (.inl c))) r.len h
  · obtain ⟨a, vs, e, c, _, r⟩ := rx.tup rfl
    exact fin e (.inr c) r.len h
  · obtain ⟨a, vs, e, c, _, r⟩ := rx.lst rfl
    exact fin e (.inl (.inl (.inl c))) r.len h
  · obtain ⟨a, vs, e, c, _, r⟩ := rx.tup rfl
    exact fin e (.inr c) r.len h
  · obtain ⟨a, dx, vs, e, c, l⟩ := kid rfl
    exact fin e (.inl (.inl (.inl c.at_))) l h
  · obtain ⟨a, dx, vs, e, c, l⟩ := kid rfl
    exact fin e (.inr (.inl (.inl c.at_))) l h
  · exact h.elim
def seqT : T → Option (List D)
  | .fz (.nd .lst ds) => some ds
  | .fz (.nd .tup ds) => some ds
  | .ow .lst ds => some ds
  | .ow .tup ds => some ds
  | _ => none
theorem Ro.seq {H : Hp} {ow : Ow} {x : V} {t : T} {ds : List D} (h : Ro K H ow x t) (e : seqT t = some ds) : ∃ a vs, x = .ref a ∧ (SqL K H a vs ∨ SqT K H a vs) ∧ vs.length ≤ sizeLine ∧ Rps K (Bs H ow) vs ds := by
  unfold seqT at e
  split at e <;> first | cases e | skip
  · obtain ⟨a, vs, e, c, z, r⟩ := h.lst (ds := ds) rfl
    exact ⟨a, vs, e, .inl (.inl (.inl c)), z, r⟩
  · obtain ⟨a, vs, e, c, z, r⟩ := h.tup (ds := ds) rfl
    exact ⟨a, vs, e, .inr c, z, r⟩
  · obtain ⟨a, vs, e, c, z, r⟩ := h.lst (ds := ds) rfl
    exact ⟨a, vs, e, .inl (.inl (.inl c)), z, r⟩
  · obtain ⟨a, vs, e, c, z, r⟩ := h.tup (ds := ds) rfl
    exact ⟨a, vs, e, .inr c, z, r⟩
def tupleG (t : T) (Q : T → Prop) : Prop := match t with
  | .fz (.nd .tup ds) => Q (.fz (.nd .tup ds))
  | t => match shL t with
    | some ds => Q (.fz (.nd .tup ds))
    | none => False
theorem g_tuple : Op1 K (fun x H Q => ∃ p ys, [x] = [.ref p] ∧ ((SqL K H p ys ∧ ∀ l, H l = none → Q (.ref l) (upd H l (.tup ys))) ∨ (SqT K H p ys ∧ Q (.ref p) H))) tupleG := by
  intro H ow n x t Q Qv rx h k
  unfold tupleG at h
  split at h
  · obtain ⟨a, vs, rfl, c, z, r⟩ := rx.tup rfl
    exact ⟨a, vs, rfl, .inr ⟨c, k _ _ H ow Stp.refl (by obtain ⟨l, rx⟩ := rx; exact Tq.fz_.mpr (Tq.fz_.mp rx)) h⟩⟩
  · split at h
    · rename_i ds e
      obtain ⟨a, vs, rfl, c, z, r⟩ := rx.lst e
      exact ⟨a, vs, rfl, .inl ⟨.inl (.inl c), fun p hp => k _ _ _ (Ow.put ow p .base) (Stp.new hp) (Tq.fz_.mpr (.tup (by rw [bs_of put_same, upd_same]) z (r.mono (Stp.bs (M := []) (n := 0) (Stp.new hp))))) h⟩⟩
    · exact h.elim
theorem bls_of {B : Hp} : ∀ {vs : List V} {ns : List Bool}, Rps K B vs (ns.map .bl) → vs = ns.map V.bl
  | _, [], .nil => rfl
  | _, n :: ns, .cons r s => by
    cases r
    rw [List.map_cons, bls_of s]
theorem of_ints {B : Hp} : ∀ ns : List Int, Rps K B (ns.map V.int) (ns.map .int)
  | [] => .nil
  | n :: ns => .cons (.int n) (of_ints ns)
def allG (t : T) (Q : T → Prop) : Prop := ∃ bs : List Bool, shL t = some (bs.map .bl) ∧ Q (.fz (.bl (bs.all id)))
def anyG (t : T) (Q : T → Prop) : Prop := ∃ bs : List Bool, shL t = some (bs.map .bl) ∧ Q (.fz (.bl (bs.any id)))
theorem g_all : Op1 K (fun x H Q => rAll K [x] H Q) allG := by
  intro H ow n x t Q Qv rx ⟨ns, e, h⟩ k
  obtain ⟨a, vs, rfl, c, z, r⟩ := rx.lst e
  have := bls_of r
  subst this
  exact ⟨a, ns, rfl, .inl (.inl c), k _ _ H ow Stp.refl (Tq.fz_.mpr (.bl _)) h⟩
theorem g_any : Op1 K (fun x H Q => rAny K [x] H Q) anyG := by
  intro H ow n x t Q Qv rx ⟨ns, e, h⟩ k
  obtain ⟨a, vs, rfl, c, z, r⟩ := rx.lst e
  have := bls_of r
  subst this
  exact ⟨a, ns, rfl, .inl (.inl c), k _ _ H ow Stp.refl (Tq.fz_.mpr (.bl _)) h⟩
def absG (t : T) (Q : T → Prop) : Prop := match t with
  | .fz (.int i) => Q (.fz (.int (if i < 0 then -i else i)))
  | _ => False
theorem g_abs : Op1 K (fun x H Q => ∃ i, [x] = [V.int i] ∧ Q (.int (if i < 0 then -i else i)) H) absG := by
  intro H ow n x t Q Qv rx h k
  unfold absG at h
  split at h
  · exact ⟨_, by rw [rx.int], k _ _ H ow Stp.refl (Tq.fz_.mpr (.int _)) h⟩
  · exact h.elim
def intG1 (t : T) (Q : T → Prop) : Prop := match t with
  | .fz (.int i) => Q (.fz (.int i))
  | .fz (.bl b) => Q (.fz (.int (if b then 1 else 0)))
  | _ => False
theorem g_int1 : Op1 K (fun x H Q => (∃ i, [x] = [V.int i] ∧ Q (.int i) H) ∨ ∃ k, [x] = [V.bl k] ∧ Q (.int (if k then 1 else 0)) H) intG1 := by
  intro H ow n x t Q Qv rx h k
  unfold intG1 at h
  split at h
  · exact .inl ⟨_, by rw [rx.int], k _ _ H ow Stp.refl (Tq.fz_.mpr (.int _)) h⟩
  · exact .inr ⟨_, by rw [rx.bl], k _ _ H ow Stp.refl (Tq.fz_.mpr (.int _)) h⟩
  · exact h.elim
def min2G (ds : List D) (Q : T → Prop) : Prop := match ds with
  | [.int i, .int j] => Q (.fz (.int (min i j)))
  | _ => False
theorem g_min2 : OpL K (fun xs H Q => ∃ i j, xs = [.int i, .int j] ∧ Q (.int (if j < i then j else i)) H) min2G := by
  intro H ow n vs ds Q Qv r h k
  unfold min2G at h
  split at h
  · rename_i i j
    cases r with
    | cons r1 r => cases r with
      | cons r2 r =>
        cases r
        cases r1
        cases r2
        refine ⟨i, j, rfl, k _ _ H ow Stp.refl (Tq.fz_.mpr ?_) h⟩
        have e : (if j < i then j else i) = min i j := by split <;> omega
        rw [e]
        exact .int _
  · exact h.elim
end

def asm : List (Option Nat) → List D → Env → Option (List T)
  | [], [], _ => some []
  | none :: ks, d :: ds, env => match asm ks ds env with
    | some ts => some (.fz d :: ts)
    | none => none
  | some i :: ks, _ :: ds, env => match env[i]? with
    | some (some t) => match asm ks ds env with
      | some ts => some (t :: ts)
      | none => none
    | _ => none
  | _, _, _ => none
theorem asm_get : ∀ {ks : List (Option Nat)} {ds : List D} {env : Env} {ts : List T}, asm ks ds env = some ts → ts.length = ks.length ∧ ∀ (j : Nat) (t : T), ts[j]? = some t → (∃ d, ks[j]? = some none ∧ ds[j]? = some d ∧ t = .fz d) ∨ ∃ i, ks[j]? = some (some i) ∧ env[i]? = some (some t)
  | [], [], env, ts, h => by cases h; exact ⟨rfl, fun j t e => by simp at e⟩
  | none :: ks, d :: ds, env, ts, h => by
    simp only [asm] at h
    split at h
    · rename_i us e
      cases h
      obtain ⟨h1, h2⟩ := asm_get e
      refine ⟨by rw [List.length_cons, List.length_cons, h1], fun j t et => ?_⟩
      cases j with
      | zero => simp at et; subst et; exact .inl ⟨d, rfl, rfl, rfl⟩
      | succ j => simpa using h2 j t (by simpa using et)
    · cases h
  | some i :: ks, d :: ds, env, ts, h => by
    simp only [asm] at h
    split at h
    · rename_i u eu
      split at h
      · rename_i us e
        cases h
        obtain ⟨h1, h2⟩ := asm_get e
        refine ⟨by rw [List.length_cons, List.length_cons, h1], fun j t et => ?_⟩
        cases j with
        | zero => simp at et; subst et; exact .inr ⟨i, rfl, eu⟩
        | succ j => simpa using h2 j t (by simpa using et)
      · cases h
    · cases h
  | [], _ :: _, _, _, h => by simp [asm] at h
  | none :: _, [], _, _, h => by simp [asm] at h
  | some _ :: _, [], _, _, h => by simp [asm] at h
def putO : List Nat → List T → Env → Env
  | i :: is, t :: ts, env => putO is ts (env.set i (some t))
  | _, _, env => env
theorem putO_len : ∀ (cs : List Nat) (ts : List T) (env : Env), (putO cs ts env).length = env.length
  | [], _, _ => by simp [putO]
  | _ :: _, [], _ => by simp [putO]
  | i :: is, t :: ts, env => by simp [putO, putO_len is ts]
theorem putO_out : ∀ (cs : List Nat) (ts : List T) (env : Env) (i : Nat), i ∉ cs → (putO cs ts env)[i]? = env[i]?
  | [], _, _, _, _ => by simp [putO]
  | _ :: _, [], _, _, _ => by simp [putO]
  | c :: cs, t :: ts, env, i, h => by
    simp only [putO]
    rw [putO_out cs ts _ i fun z => h (List.mem_cons_of_mem _ z), List.getElem?_set_ne fun z => h (by rw [z]; exact List.mem_cons_self)]
theorem putO_in : ∀ (cs : List Nat) (ts : List T) (env : Env) (i : Nat) (t : T), cs.Nodup → ts.length = cs.length → i ∈ cs → (putO cs ts env)[i]? = some (some t) → ∃ j : Nat, cs[j]? = some i ∧ ts[j]? = some t
  | [], _, _, _, _, _, _, h, _ => by simp at h
  | c :: cs, [], _, _, _, _, h, _, _ => by simp at h
  | c :: cs, u :: ts, env, i, t, nd, hl, hi, h => by
    rw [List.nodup_cons] at nd
    simp only [putO] at h
    by_cases e : i ∈ cs
    · obtain ⟨j, h1, h2⟩ := putO_in cs ts _ i t nd.2 (by simpa using hl) e h
      exact ⟨j + 1, by simpa using h1, by simpa using h2⟩
    · have e1 : i = c := by rcases List.mem_cons.mp hi with z | z; exact z; exact absurd z e
      subst e1
      rw [putO_out _ _ _ _ e] at h
      by_cases hl2 : i < env.length
      · rw [List.getElem?_set_self hl2] at h
        cases h
        exact ⟨0, rfl, rfl⟩
      · rw [List.getElem?_eq_none (by simpa using hl2)] at h
        cases h
def okK (ks : List (Option Nat)) (io cs : List Nat) : Bool := decide (cs.Nodup) && decide (io.length = cs.length) && (io.zip cs).all (fun p => decide (ks[p.1]? = some (some p.2))) && (List.range ks.length).all fun j => match ks[j]? with
  | some (some i) => decide (j ∈ io) && decide (i ∈ cs)
  | _ => true
def sCall (spec : SemF) (ks : List (Option Nat)) (cs : List Nat) (qs : SemD) : SemE := fun env Q E => qs env (fun ds env1 => match asm ks ds env1 with
  | some args => spec args (fun t outs => Q t (putO cs outs env1)) (fun r outs => E r (putO cs outs env1))
  | none => False) E
def labIn (io cs : List Nat) : Lab → Lab
  | .base => .base
  | .sl i => match (cs.zip io).lookup i with
    | some p => .sl p
    | none => .fr
  | _ => .fr
def labBack (io cs : List Nat) (n : Nat) (old : Lab) : Lab → Lab
  | .fr => old
  | .base => .base
  | .sl p => match (io.zip cs).lookup p with
    | some i => .sl i
    | none => .tm n
  | .tm _ => .tm n
theorem lookup_zip {α β : Type} [BEq α] [LawfulBEq α] : ∀ {as : List α} {bs : List β} {j : Nat} {a : α} {b : β}, as.Nodup → as[j]? = some a → bs[j]? = some b → (as.zip bs).lookup a = some b
  | [], _, _, _, _, _, h, _ => by simp at h
  | _ :: _, [], _, _, _, _, _, h => by simp at h
  | x :: as, y :: bs, 0, a, b, _, h1, h2 => by
    simp at h1 h2
    subst h1 h2
    simp
  | x :: as, y :: bs, j + 1, a, b, nd, h1, h2 => by
    rw [List.nodup_cons] at nd
    have h1' : as[j]? = some a := by simpa using h1
    have ne : (a == x) = false := by
      rw [beq_eq_false_iff_ne]
      intro e
      subst e
      exact nd.1 (List.mem_of_getElem? h1')
    rw [List.zip_cons_cons, List.lookup_cons, ne]
    exact lookup_zip nd.2 h1' (by simpa using h2)
theorem lookup_zip_none {α β : Type} [BEq α] [LawfulBEq α] : ∀ {as : List α} {bs : List β} {a : α}, a ∉ as → (as.zip bs).lookup a = none
  | [], _, _, _ => by simp
  | _ :: _, [], _, _ => by simp
  | x :: as, y :: bs, a, h => by
    have ne : (a == x) = false := by
      rw [beq_eq_false_iff_ne]
      intro e
      exact h (by rw [e]; exact List.mem_cons_self)
    rw [List.zip_cons_cons, List.lookup_cons, ne]
    exact lookup_zip_none fun z => h (List.mem_cons_of_mem _ z)
section
variable {X : Cx} {W : WX} {M : List Nat} {k : Nat} {f : Addr} {fd : FuncData} {ps : List Str} {io cs : List Nat} {spec : SemF} {ks : List (Option Nat)} {e : Expr} {es : List Expr} {qs : SemD} {x : Str} {p pos : Pos}
theorem call_run {K : PySem.W.Frag} {n0 : Nat} (hio : io.Nodup) (hk : okK ks io cs = true) (hn : ks.length = n0) {σ : L2.St} {H1 : Hp} {Qv : VK} {m : Nat} {ow1 : Ow} {env1 : Env} {Q : T → Env → Prop} {E : XQ} {vs : List V} {ds : List D} {args : List T} (s1 : StOk K H1 ow1 σ env1) (l1 : vs.length = ks.length)
    (hv : ∀ (j : Nat) (v : V) (d : D), vs[j]? = some v → ds[j]? = some d → (ks[j]? = some none → Rp K (Bs H1 ow1) v d) ∧ ∀ i, ks[j]? = some (some i) → σ[i]? = some (some v))
    (l2 : ds.length = ks.length) (ha : asm ks ds env1 = some args) (hs : spec args (fun t outs => Q t (putO cs outs env1)) (fun r outs => E r (putO cs outs env1)))
    (kk : ∀ v t H' ow' env', Stp cs m H1 ow1 H' ow' → StOk K H' ow' σ env' → Out cs env1 env' → Tq K H' ow' (.tm m) v t → Q t env' → Qv v H') (xx : Xk K W cs σ H1 m ow1 env1 E) : spQ K n0 io spec vs H1 Qv (fun cls d H' => W cls d σ H') := by
  unfold okK at hk
  simp only [Bool.and_eq_true, decide_eq_true_eq] at hk
  obtain ⟨⟨⟨nd, len⟩, hz⟩, hall⟩ := hk
  obtain ⟨a1, a2⟩ := asm_get ha
  have slot : ∀ {i p : Nat} {j : Nat}, cs[j]? = some i → io[j]? = some p → labIn io cs (.sl i) = .sl p := fun {i p j} e1 e2 => by
    simp only [labIn]
    rw [lookup_zip nd e1 e2]
  have back : ∀ {i p j : Nat} {old : Lab}, cs[j]? = some i → io[j]? = some p → labBack io cs m old (.sl p) = .sl i := fun {i p j old} e1 e2 => by
    simp only [labBack]
    rw [lookup_zip hio e2 e1]
  have kz : ∀ {j i p : Nat}, cs[j]? = some i → io[j]? = some p → ks[p]? = some (some i) := fun {j i p} e1 e2 => by
    have hm : (p, i) ∈ io.zip cs := List.mem_of_getElem? (i := j) (by rw [List.getElem?_zip_eq_some]; exact ⟨e2, e1⟩)
    exact of_decide_eq_true (List.all_eq_true.mp hz _ hm)
  have bsIn : Same (Bs H1 ow1) (Bs H1 fun a => labIn io cs (ow1 a)) := bs_lab fun a e1 => by
    show labIn io cs (ow1 a) = .base
    rw [e1]; rfl
  -- what is behind the call
  have after : ∀ {H2 : Hp} {owc : Ow}, Fs H1 (fun a => labIn io cs (ow1 a)) H2 owc → Stp cs m H1 ow1 H2 (fun a => labBack io cs m (ow1 a) (owc a)) ∧ Same (Bs H2 owc) (Bs H2 fun a => labBack io cs m (ow1 a) (owc a)) := fun {H2 owc} fs => by
    refine ⟨⟨fun a o e q => ?_, fs.tp⟩, bs_lab fun a e1 => ?_⟩
    · have key : (labIn io cs (ow1 a) = .fr ∨ labIn io cs (ow1 a) = .base) ∧ labBack io cs m (ow1 a) (labIn io cs (ow1 a)) = ow1 a := by
        cases eo : ow1 a with
        | fr => exact ⟨.inl rfl, rfl⟩
        | base => exact ⟨.inr rfl, rfl⟩
        | tm k => exact ⟨.inl rfl, rfl⟩
        | sl i =>
          rw [eo] at q
          have hi : i ∉ cs := q
          have : labIn io cs (.sl i) = .fr := by simp only [labIn]; rw [lookup_zip_none hi]
          rw [this]
          exact ⟨.inl rfl, rfl⟩
      obtain ⟨e1, e2⟩ := fs a o e key.1
      refine ⟨e1, ?_⟩
      show labBack io cs m (ow1 a) (owc a) = ow1 a
      rw [e2]
      exact key.2
    · show labBack io cs m (ow1 a) (owc a) = .base
      rw [e1]; rfl
  have state : ∀ {H2 : Hp} {owc : Ow} {outs : List T}, Fs H1 (fun a => labIn io cs (ow1 a)) H2 owc → outs.length = io.length → (∀ (j i : Nat) (u : T), io[j]? = some i → outs[j]? = some u → ∃ v, vs[i]? = some v ∧ Tq K H2 owc (.sl i) v u) →
      StOk K H2 (fun a => labBack io cs m (ow1 a) (owc a)) σ (putO cs outs env1) ∧ Out cs env1 (putO cs outs env1) := fun {H2 owc outs} fs lo ho => by
    obtain ⟨y, bsB⟩ := after fs
    have out : Out cs env1 (putO cs outs env1) := ⟨putO_len _ _ _, fun i hi => putO_out _ _ _ _ hi⟩
    refine ⟨s1.stp y out fun i t hi e => ?_, out⟩
    obtain ⟨j, ej, et⟩ := putO_in cs outs env1 i t nd (lo.trans len) hi e
    have hj : j < io.length := by have := (List.getElem?_eq_some_iff.mp et).1; omega
    have ep : io[j]? = some io[j] := by simp [hj]
    obtain ⟨v, ev, r⟩ := ho j io[j] t ep et
    have kp := kz ej ep
    have hp : io[j] < ds.length := by have := (List.getElem?_eq_some_iff.mp ev).1; omega
    refine ⟨v, (hv io[j] v ds[io[j]] ev (by simp [hp])).2 i kp, Car.tq ⟨bsB, fun a o _ eo => ⟨by assumption, ?_⟩⟩ r⟩
    show labBack io cs m (ow1 a) (owc a) = .sl i
    rw [eo]
    exact back ej ep
  refine ⟨by omega, fun a => labIn io cs (ow1 a), args, _, _, by omega, fun j t et => ?_, hs, fun v t H2 owc outs fs r lo ho z => ?_, fun r d H2 owc outs fs rz lo ho z => ?_⟩
  · have hj : j < vs.length := by have := (List.getElem?_eq_some_iff.mp et).1; omega
    have ev : vs[j]? = some vs[j] := by simp [hj]
    refine ⟨vs[j], ev, ?_⟩
    have hjd : j < ds.length := by omega
    have ed : ds[j]? = some ds[j] := by simp [hjd]
    rcases a2 j t et with ⟨d, ek, ed', rfl⟩ | ⟨i, ek, ee⟩
    · exact Tq.fz_.mpr (((hv j _ d ev ed').1 ek).mono bsIn)
    · have e1 := (hv j _ _ ev ed).2 i ek
      obtain ⟨w, e2, r⟩ := s1.at_ i t ee
      rw [e1] at e2
      cases e2
      have hall' := List.all_eq_true.mp hall j (List.mem_range.mpr (by omega))
      rw [ek] at hall'
      simp only [Bool.and_eq_true, decide_eq_true_eq] at hall'
      -- the place of i among cs is that of j among io
      obtain ⟨c, hc⟩ := List.getElem?_of_mem hall'.1
      have hcs : c < cs.length := by have := (List.getElem?_eq_some_iff.mp hc).1; omega
      have ec : cs[c]? = some cs[c] := by simp [hcs]
      have kp := kz ec hc
      rw [ek] at kp
      have ei : i = cs[c] := Option.some.inj (Option.some.inj kp)
      exact Car.tq ⟨bsIn, fun a o h eo => ⟨h, by
        show labIn io cs (ow1 a) = .sl j
        rw [eo, ei]
        exact slot ec hc⟩⟩ r
  · obtain ⟨y, bsB⟩ := after fs
    obtain ⟨s2, o2⟩ := state fs lo ho
    exact kk v t H2 _ _ y s2 o2 (Car.tq ⟨bsB, fun a o h eo => ⟨h, by
      show labBack io cs m (ow1 a) (owc a) = .tm m
      rw [eo]
      rfl⟩⟩ r) z
  · obtain ⟨y, bsB⟩ := after fs
    obtain ⟨s2, o2⟩ := state fs lo ho
    refine xx r d H2 _ _ y s2 o2 ?_ z
    cases d with
    | none => exact rz
    | some d =>
      obtain ⟨ws, e1, e2, e3⟩ := rz
      exact ⟨ws, bsB _ _ e1, e2, e3.mono bsB⟩
theorem q_call (F : QFn X.prog X.w X.K X.mg X.base k f fd ps io spec) (tk : L2.Takes X W) (hr : Room k X.A) (hG : X.A.guards = some []) (hg : Gl X x) (hm : X.mg x = some (.ref f)) (hk : PySem.W.keepIn X.K (.ref f) = true) (hb : Binds X.K fd ps [])
    (ha : QA X W M ks (e :: es) qs) (cs : List Nat) (hio : io.Nodup := by decide) (hK : okK ks io cs = true := by decide) (hn : ks.length = ps.length := by rfl) (hdb : (x == ("__debug__" : Str)) = false := by decide) (he : starEach (e :: es) X.env = (false, eval e X.env) :: starEach es X.env := by rfl)
    (hpl : (backTo pos (starEach es X.env)).any (·.1) = false := by rfl) : QE X W (M ++ cs) (.Call (.Name x p) (e :: es) [] pos) (sCall spec ks cs qs) :=
  ⟨PE_imp (pe_callG F hr hG hg hm hk hb tk ha.run hdb he hpl) fun σ H Qv ⟨n, ow, env, Q, E, st, hq, kk, xx⟩ => ⟨n, ow, env, _, E, st, hq, fun vs ds H1 ow1 env1 y1 s1 o1 l1 l2 hv z => by
    split at z
    · rename_i args ea
      exact call_run hio hK hn s1 l1 hv l2 ea z (fun v t H2 ow2 env2 y2 s2 o2 r2 z2 => kk v t H2 ow2 env2 (y1.trans y2 subl subr (Nat.le_refl _) (Nat.le_refl _)) s2 (o1.trans o2 subl subr) r2 z2) (xx.step y1 o1 subl subr (Nat.le_refl _) (Nat.le_refl _))
    · exact z.elim, fun r d H' ow' env' y s' o => xx r d H' ow' env' (y.mono subl (Nat.le_refl _)) s' (o.mono subl)⟩⟩
end
end QV

set_option Elab.async false
set_option linter.all false
set_option maxRecDepth 100000
set_option maxHeartbeats 2000000
namespace QV
open PySem L2

def wipeE (env : Env) : List Nat → Env
  | [] => env
  | v :: vs => (wipeE env vs).set v none
def rstE (e0 : Env) : List Nat → Env → Env
  | [], e => e
  | v :: vs, e => (rstE e0 vs e).set v ((e0[v]?).getD none)
theorem wipeE_len (env : Env) : ∀ vs, (wipeE env vs).length = env.length
  | [] => rfl
  | v :: vs => by unfold wipeE; rw [List.length_set, wipeE_len env vs]
theorem rstE_len (e0 : Env) : ∀ vs (e : Env), (rstE e0 vs e).length = e.length
  | [], _ => rfl
  | v :: vs, e => by unfold rstE; rw [List.length_set, rstE_len e0 vs e]
theorem wipeE_some {env : Env} {i : Nat} {t : T} : ∀ {vs : List Nat}, (wipeE env vs)[i]? = some (some t) → env[i]? = some (some t) ∧ i ∉ vs
  | [], h => ⟨h, by simp⟩
  | v :: vs, h => by
    unfold wipeE at h
    by_cases hi : v = i
    · subst hi
      by_cases hv : v < (wipeE env vs).length
      · rw [List.getElem?_set_self hv] at h; cases h
      · rw [List.getElem?_eq_none (by simpa using hv)] at h; cases h
    · rw [List.getElem?_set_ne hi] at h
      obtain ⟨h1, h2⟩ := wipeE_some h
      exact ⟨h1, by simp only [List.mem_cons, not_or]; exact ⟨fun e => hi e.symm, h2⟩⟩
theorem rstE_out {e0 : Env} {i : Nat} : ∀ {vs : List Nat} {e : Env}, i ∉ vs → (rstE e0 vs e)[i]? = e[i]?
  | [], _, _ => rfl
  | v :: vs, e, h => by
    unfold rstE
    rw [List.getElem?_set_ne fun z => h (by rw [z]; exact List.mem_cons_self)]
    exact rstE_out fun z => h (List.mem_cons_of_mem _ z)
theorem rstE_in {e0 : Env} {i : Nat} {t : T} : ∀ {vs : List Nat} {e : Env}, i ∈ vs → (rstE e0 vs e)[i]? = some (some t) → e0[i]? = some (some t)
  | [], _, h, _ => by simp at h
  | v :: vs, e, hi, h => by
    unfold rstE at h
    by_cases hv : v = i
    · subst hv
      by_cases hl : v < (rstE e0 vs e).length
      · rw [List.getElem?_set_self hl] at h
        cases e1 : e0[v]? with
        | none => rw [e1] at h; cases h
        | some u => rw [e1] at h; exact h
      · rw [List.getElem?_eq_none (by simpa using hl)] at h; cases h
    · rw [List.getElem?_set_ne hv] at h
      exact rstE_in ((List.mem_cons.mp hi).resolve_left fun z => hv z.symm) h
theorem wipeE_out {env : Env} {i : Nat} : ∀ {vs : List Nat}, i ∉ vs → (wipeE env vs)[i]? = env[i]?
  | [], _ => rfl
  | v :: vs, h => by
    unfold wipeE
    rw [List.getElem?_set_ne fun z => h (by rw [z]; exact List.mem_cons_self)]
    exact wipeE_out fun z => h (List.mem_cons_of_mem _ z)
theorem wipe_in {σ : L2.St} {i : Nat} : ∀ {vs : List Nat}, i ∈ vs → i < σ.length → (wipe σ vs)[i]? = some none
  | [], h, _ => by simp at h
  | v :: vs, h, hl => by
    unfold wipe
    by_cases hv : v = i
    · subst hv
      exact List.getElem?_set_self (by rw [wipe_length]; exact hl)
    · rw [List.getElem?_set_ne hv]
      exact wipe_in ((List.mem_cons.mp h).resolve_left fun z => hv z.symm) hl
theorem wipe_tch {SS vs : List Nat} {σ σ2 : L2.St} (h : Tch SS (wipe σ vs) σ2) (hs : ∀ i ∈ SS, i ∈ vs) : wipe σ2 vs = wipe σ vs := by
  apply List.ext_getElem?
  intro i
  have l : σ2.length = σ.length := h.len.trans (wipe_length σ vs)
  by_cases hi : i ∈ vs
  · by_cases hl : i < σ.length
    · rw [wipe_in hi hl, wipe_in hi (by omega)]
    · rw [List.getElem?_eq_none (by rw [wipe_length]; omega), List.getElem?_eq_none (by rw [wipe_length]; omega)]
  · rw [wipe_out hi, h.eq i fun z => hi (hs i z)]
section
variable {K : PySem.W.Frag} {H H' : Hp} {ow ow' : Ow} {σ σ2 : L2.St} {env env' : Env} {vs SS : List Nat}
theorem StOk.wipe (s : StOk K H ow σ env) : StOk K H ow (L2.wipe σ vs) (wipeE env vs) := ⟨by rw [wipeE_len, wipe_length]; exact s.len, fun i t e => by
  obtain ⟨e1, hi⟩ := wipeE_some e
  obtain ⟨v, e2, r⟩ := s.at_ i t e1
  exact ⟨v, by rw [wipe_out hi]; exact e2, r⟩⟩
theorem StOk.rst (s : StOk K H ow σ env) (s2 : StOk K H' ow' σ2 env') (tc : Tch SS (L2.wipe σ vs) σ2) (hs : ∀ i ∈ SS, i ∈ vs) (car : ∀ i ∈ vs, Car H H' ow ow' (.sl i) (.sl i)) : StOk K H' ow' σ (rstE env vs env') := ⟨by rw [rstE_len, s2.len, tc.len, wipe_length], fun i t e => by
  by_cases hi : i ∈ vs
  · obtain ⟨v, e1, r⟩ := s.at_ i t (rstE_in hi e)
    exact ⟨v, e1, (car i hi).tq r⟩
  · rw [rstE_out hi] at e
    obtain ⟨v, e1, r⟩ := s2.at_ i t e
    rw [tc.eq i fun z => hi (hs i z), wipe_out hi] at e1
    exact ⟨v, e1, r⟩⟩
end
abbrev noX : XQ := fun _ _ => False
abbrev W0 : WX := fun _ _ _ _ => False
theorem xk0 {K : PySem.W.Frag} {M : List Nat} {σ : L2.St} {H : Hp} {n : Nat} {ow : Ow} {env : Env} {W : WX} : Xk K W M σ H n ow env noX := fun _ _ _ _ _ _ _ _ _ z => z.elim
structure QTs (X : Cx) (W : WX) (M : List Nat) (ifs : List Expr) (q : SemT) : Prop where
  run : PTs X ifs (tT X.K W M q)
def sYes : SemT := fun env Q _ => Q true env
theorem PTs_imp {X : Cx} {e : List Expr} {t t' : TT} (h : PTs X e t) (f : ∀ σ H Q, t' σ H Q → t σ H Q) : PTs X e t' := ⟨fun pins s σ H Q I q => h.run pins s σ H Q I (f _ _ _ q)⟩
theorem ts_nil {X : Cx} {W : WX} : QTs X W [] [] sYes := ⟨PTs_imp pts_nil fun σ H Qv ⟨n, ow, env, Q, E, s, hq, k, x⟩ => k true H ow env Stp.refl s Out.refl hq⟩
inductive LcG (g : SemG) (t : SemT) (q : SemE) (vs : List Nat) (Q : T → Env → Prop) (ds : List D) (env1 : Env) : Prop
  | mk (h : ∃ I : Nat → List D → Env → Prop, I 0 [] env1 ∧
  (∀ j d acc env', ds[j]? = some d → I j acc env' → g d (wipeE env' vs) fun env2 => t env2 (fun b env3 => (b = true → q env3 (fun w env4 => match w with
    | .fz e => I (j + 1) (acc ++ [e]) (rstE env' vs env4)
    | _ => False) noX) ∧ (b = false → I (j + 1) acc (rstE env' vs env3))) noX) ∧ ∀ acc env', I ds.length acc env' → Q (.ow .lst acc) env')
  | no (h : False)
theorem LcG.ex {g : SemG} {t : SemT} {q : SemE} {vs : List Nat} {Q : T → Env → Prop} {ds : List D} {env1 : Env} : LcG g t q vs Q ds env1 → ∃ I : Nat → List D → Env → Prop, I 0 [] env1 ∧
  (∀ j d acc env', ds[j]? = some d → I j acc env' → g d (wipeE env' vs) fun env2 => t env2 (fun b env3 => (b = true → q env3 (fun w env4 => match w with
    | .fz e => I (j + 1) (acc ++ [e]) (rstE env' vs env4)
    | _ => False) noX) ∧ (b = false → I (j + 1) acc (rstE env' vs env3))) noX) ∧ ∀ acc env', I ds.length acc env' → Q (.ow .lst acc) env'
  | .mk h => h
  | .no h => h.elim
def sLc (qi : SemI) (g : SemG) (t : SemT) (q : SemE) (vs : List Nat) : SemE := fun env Q E => qi env (fun ds env1 => LcG g t q vs Q ds env1) E
theorem LcG.fr {g : SemG} {t : SemT} {q : SemE} {vs : List Nat} {Q : T → Env → Prop} {ds : List D} {env : Env} (ms : List Nat) (I : Nat → List D → List (Option T) → Prop) (h0 : ∃ us, env = putE env ms us ∧ I 0 [] us)
    (hs : ∀ j d acc us, ds[j]? = some d → I j acc us → g d (wipeE (putE env ms us) vs) fun env2 => t env2 (fun b env3 => (b = true → q env3 (fun w env4 => match w with
    | .fz e => ∃ us', rstE (putE env ms us) vs env4 = putE env ms us' ∧ I (j + 1) (acc ++ [e]) us'
    | _ => False) noX) ∧ (b = false → ∃ us', rstE (putE env ms us) vs env3 = putE env ms us' ∧ I (j + 1) acc us')) noX) (he : ∀ acc us, I ds.length acc us → Q (.ow .lst acc) (putE env ms us)) : LcG g t q vs Q ds env :=
  .mk ⟨fun j acc e => ∃ us, e = putE env ms us ∧ I j acc us, h0, fun j d acc env' hd ⟨us, e, i⟩ => by subst e; exact hs j d acc us hd i, fun acc env' ⟨us, e, i⟩ => by subst e; exact he acc us i⟩
theorem LcG.flat {g : SemG} {t : SemT} {q : SemE} {vs : List Nat} {Q : T → Env → Prop} {ds : List D} {env : Env} (f : D → Option D)
    (hs : ∀ j d, ds[j]? = some d → g d (wipeE env vs) fun env2 => t env2 (fun b env3 => (b = true → q env3 (fun w env4 => match w with
    | .fz e => (ds.take j).filterMap f ++ [e] = (ds.take (j + 1)).filterMap f ∧ rstE env vs env4 = env
    | _ => False) noX) ∧ (b = false → (ds.take j).filterMap f = (ds.take (j + 1)).filterMap f ∧ rstE env vs env3 = env)) noX) (he : Q (.ow .lst (ds.filterMap f)) env) : LcG g t q vs Q ds env :=
  .mk ⟨fun j acc e => acc = (ds.take j).filterMap f ∧ e = env, ⟨rfl, rfl⟩, fun j d acc env' hd ⟨ha, he⟩ => by subst ha he; exact hs j d hd, fun acc env' ⟨ha, he'⟩ => by subst ha he'; rwa [List.take_of_length_le (Nat.le_refl _)]⟩
theorem nf_map {a : T} {l : List T} : List.map some (a :: l) = some a :: List.map some l := rfl
theorem nf_map0 : List.map some ([] : List T) = [] := rfl
theorem nf_app {a : Option T} {l m : List (Option T)} : (a :: l) ++ m = a :: (l ++ m) := rfl
theorem nf_app0 {m : List (Option T)} : [] ++ m = m := rfl
theorem nf_set0 {a b : Option T} {l : List (Option T)} : (a :: l).set 0 b = b :: l := rfl
theorem nf_setS {a b : Option T} {l : List (Option T)} {n : Nat} : (a :: l).set (n + 1) b = a :: l.set n b := rfl
theorem putE_nil {env : Env} : putE env [] [] = env := rfl
theorem putE_cons {env : Env} {i : Nat} {is : List Nat} {v : Option T} {vs : List (Option T)} : putE env (i :: is) (v :: vs) = putE (env.set i v) is vs := rfl
theorem putO_nil {env : Env} : putO [] [] env = env := rfl
theorem putO_cons {env : Env} {i : Nat} {is : List Nat} {v : T} {vs : List T} : putO (i :: is) (v :: vs) env = putO is vs (env.set i (some v)) := rfl
theorem map_at {α : Type} {l : List α} {g0 : α → D} {j : Nat} {d : D} (h : (l.map g0)[j]? = some d) : ∃ a, l[j]? = some a ∧ d = g0 a := by
  rw [List.getElem?_map] at h
  cases e : l[j]? with
  | none => rw [e] at h; cases h
  | some a => rw [e] at h; cases h; exact ⟨a, rfl, rfl⟩
theorem LcG.over {g : SemG} {t : SemT} {q : SemE} {vs : List Nat} {Q : T → Env → Prop} {ds : List D} {env : Env} {α : Type} (l : List α) (g0 : α → D) (hds : ds = l.map g0) (p : α → Bool) (f : α → D)
    (hs : ∀ j a, l[j]? = some a → g (g0 a) (wipeE env vs) fun env2 => t env2 (fun b env3 => (b = true → q env3 (fun w env4 => match w with
    | .fz e => ((l.take j).filter p).map f ++ [e] = ((l.take (j + 1)).filter p).map f ∧ rstE env vs env4 = env
    | _ => False) noX) ∧ (b = false → ((l.take j).filter p).map f = ((l.take (j + 1)).filter p).map f ∧ rstE env vs env3 = env)) noX) (he : Q (.ow .lst ((l.filter p).map f)) env) : LcG g t q vs Q ds env :=
  .mk ⟨fun j acc e => acc = ((l.take j).filter p).map f ∧ e = env, ⟨rfl, rfl⟩, fun j d acc env' hd ⟨ha, he⟩ => by
    subst ha he hds
    obtain ⟨a, h1, rfl⟩ := map_at hd
    exact hs j a h1, fun acc env' ⟨ha, he'⟩ => by
    subst ha he' hds
    rwa [List.length_map, List.take_of_length_le (Nat.le_refl _)]⟩
theorem all_one {α : Type} {l : List α} {f : α → D} {j : Nat} {a : α} (h : l[j]? = some a) : (l.take j).map f ++ [f a] = (l.take (j + 1)).map f := by
  rw [List.take_add_one, h, List.map_append]; rfl
theorem LcG.each {g : SemG} {t : SemT} {q : SemE} {vs : List Nat} {Q : T → Env → Prop} {ds : List D} {env : Env} {α : Type} (l : List α) (g0 : α → D) (hds : ds = l.map g0) (f : α → D)
    (hs : ∀ j a, l[j]? = some a → g (g0 a) (wipeE env vs) fun env2 => t env2 (fun b env3 => (b = true → q env3 (fun w env4 => match w with
    | .fz e => (l.take j).map f ++ [e] = (l.take (j + 1)).map f ∧ rstE env vs env4 = env
    | _ => False) noX) ∧ (b = false → (l.take j).map f = (l.take (j + 1)).map f ∧ rstE env vs env3 = env)) noX) (he : Q (.ow .lst (l.map f)) env) : LcG g t q vs Q ds env :=
  .mk ⟨fun j acc e => acc = (l.take j).map f ∧ e = env, ⟨rfl, rfl⟩, fun j d acc env' hd ⟨ha, he⟩ => by
    subst ha he hds
    obtain ⟨a, h1, rfl⟩ := map_at hd
    exact hs j a h1, fun acc env' ⟨ha, he'⟩ => by
    subst ha he' hds
    rwa [List.length_map, List.take_of_length_le (Nat.le_refl _)]⟩
theorem ForG.over {g : SemG} {body : SemS} {D : EndsQ} {ds : List QV.D} {env : Env} {α : Type} (l : List α) (g0 : α → QV.D) (hds : ds = l.map g0) (ms : List Nat) (I : Nat → List (Option T) → Prop) (h0 : ∃ vs, env = putE env ms vs ∧ I 0 vs)
    (hs : ∀ j a vs, l[j]? = some a → I j vs → g (g0 a) (putE env ms vs) fun env2 => body { D with nx := fun e => ∃ us, e = putE env ms us ∧ I (j + 1) us, ct := fun e => ∃ us, e = putE env ms us ∧ I (j + 1) us, bk := D.nx } env2) (he : ∀ vs, I l.length vs → D.nx (putE env ms vs)) : ForG g body D ds env :=
  .fr ms I h0 (fun j d vs hd i => by
    subst hds
    obtain ⟨a, h1, rfl⟩ := map_at hd
    exact hs j a vs h1 i) fun vs i => he vs (by subst hds; rwa [List.length_map] at i)
theorem ForG.rng {g : SemG} {body : SemS} {D : EndsQ} {lo : Int} {n : Nat} {env : Env} (ms : List Nat) (I : Nat → List (Option T) → Prop) (h0 : ∃ vs, env = putE env ms vs ∧ I 0 vs)
    (hs : ∀ j vs, j < n → I j vs → g (.int (lo + (j : Nat))) (putE env ms vs) fun env2 => body { D with nx := fun e => ∃ us, e = putE env ms us ∧ I (j + 1) us, ct := fun e => ∃ us, e = putE env ms us ∧ I (j + 1) us, bk := D.nx } env2) (he : ∀ vs, I n vs → D.nx (putE env ms vs)) : ForG g body D (rngD lo n) env :=
  .fr ms I h0 (fun j d vs hd i => by
    obtain ⟨h1, rfl⟩ := rngD_get hd
    exact hs j vs h1 i) fun vs i => he vs (by rwa [rngD_len] at i)
theorem mem3 {Mi Mt Me : List Nat} : (∀ i ∈ Mi, i ∈ Mi ++ (Mt ++ Me)) ∧ (∀ i ∈ Mt, i ∈ Mi ++ (Mt ++ Me)) ∧ ∀ i ∈ Me, i ∈ Mi ++ (Mt ++ Me) := ⟨subl, fun i h => subr i (subl i h), fun i h => subr i (subr i h)⟩
theorem lc_run {K : PySem.W.Frag} {W : WX} {Mi Mt Me SS vs : List Nat} {qi : SemI} {g : SemG} {t : SemT} {q : SemE} (hs : ∀ i ∈ SS, i ∈ vs) (hv : ∀ i ∈ vs, i ∉ Mt ++ Me) {σ : L2.St} {H : Hp} {Qv : VK} (h : tQ K W (Mi ++ (Mt ++ Me)) (sLc qi g t q vs) σ H Qv) :
    tLc (tI K W Mi qi) (tG K SS g) (tT K W0 Mt t) (tQ K W0 Me q) vs σ H Qv := by
  obtain ⟨n, ow, env, Q, E, s, hq, k, x⟩ := h
  refine ⟨n, ow, env, _, E, s, hq, fun J ds H1 ow1 env1 y1 s1 o1 J1 hI => ?_, fun r d H' ow' env' y s' o => x r d H' ow' env' (y.mono subl (Nat.le_refl _)) s' (o.mono subl)⟩
  obtain ⟨I, i0, it, ie⟩ := hI.ex
  intro D hD
  have key : ∀ {H' : Hp} {ow' : Ow}, Stp (Mi ++ (Mt ++ Me)) n H1 ow1 H' ow' → Stp (Mi ++ (Mt ++ Me)) n H ow H' ow' := fun y => y1.trans y subl (fun _ h => h) (Nat.le_refl _) (Nat.le_refl _)
  refine ⟨fun j m H' => m = ds.length - j ∧ j ≤ ds.length ∧ ∃ ow' env' acc us, Stp (Mi ++ (Mt ++ Me)) n H1 ow1 H' ow' ∧ StOk K H' ow' σ env' ∧ Out (Mi ++ (Mt ++ Me)) env1 env' ∧ H' D = some (.lst us) ∧ ow' D = .tm n ∧ Rps K (Bs H' ow') us acc ∧ us.length ≤ j ∧ I j acc env',
    ⟨ds.length, by simp, Nat.zero_le _, Ow.put ow1 D (.tm n), env1, [], [], Stp.new hD, s1.stp0 (n := 0) (Stp.new hD), Out.refl, upd_same, put_same, .nil, Nat.le_refl _, i0⟩, ?_⟩
  rintro j m H' ⟨rfl, hj, ow', env', acc, us, y', s', o', hDl, hDo, hr, hl, ij⟩
  by_cases hlt : j < ds.length
  · have hd : ds[j]? = some ds[j] := by simp [hlt]
    refine .inr ⟨J1.go j _ H' ow' y'.fs hd, fun H5 => ∃ ow5 env5 acc5 us5, Stp (Mi ++ (Mt ++ Me)) n H1 ow1 H5 ow5 ∧ StOk K H5 ow5 σ env5 ∧ Out (Mi ++ (Mt ++ Me)) env1 env5 ∧ H5 D = some (.lst us5) ∧ ow5 D = .tm n ∧ Rps K (Bs H5 ow5) us5 acc5 ∧ us5.length ≤ j + 1 ∧ I (j + 1) acc5 env5,
      fun H5 ⟨ow5, env5, acc5, us5, q5⟩ => ⟨ds.length - (j + 1), by omega, rfl, hlt, ow5, env5, acc5, us5, q5⟩, fun xv H2 yl => ?_⟩
    obtain ⟨ow2, ex, rx⟩ := J1.yld j _ H' ow' xv H2 y'.fs hd yl
    have y2 : Stp (Mi ++ (Mt ++ Me)) n H' ow' H2 ow2 := ex.stp
    have s2 : StOk K H2 ow2 σ env' := s'.stp0 (n := 0) ex.stp
    refine ⟨ow2, wipeE env' vs, _, _, s2.wipe, rx, it j _ acc env' hd ij, fun σ3 env3 tc oT s3 z3 => ?_⟩
    refine ⟨wipe_tch tc hs, n + 1, ow2, env3, _, noX, s3, z3, fun b H3 ow3 env4 y3 s4 o4 z4 => ?_, xk0⟩
    have hD2 := (ex D _ hDl)
    have hD3 := y3 D _ hD2.1 (by rw [hD2.2, hDo]; exact Nat.lt_succ_self n)
    have hDo3 : ow3 D = .tm n := by rw [hD3.2, hD2.2, hDo]
    have same3 : Same (Bs H' ow') (Bs H3 ow3) := fun a o e => y3.bs a o (y2.bs a o e)
    have y23 : Stp (Mi ++ (Mt ++ Me)) n H' ow' H3 ow3 := y2.trans y3 (fun _ h => h) mem3.2.1 (Nat.le_refl _) (Nat.le_succ _)
    have outs : ∀ {e5 : Env} {H5 : Hp} {ow5 : Ow}, Out (Mt ++ Me) env3 e5 → StOk K H5 ow5 σ3 e5 → Out (Mi ++ (Mt ++ Me)) env1 (rstE env' vs e5) := fun {e5 H5 ow5} oo ss => by
      refine ⟨?_, fun i hi => ?_⟩
      · rw [rstE_len, ss.len, tc.len, wipe_length, ← s'.len, o'.len]
      · rw [← o'.eq i hi]
        by_cases hiv : i ∈ vs
        · by_cases hil : i < env'.length
          · have : ∀ {vs : List Nat}, i ∈ vs → (rstE env' vs e5)[i]? = some ((env'[i]?).getD none) := fun {vs} hm => by
              induction vs with
              | nil => simp at hm
              | cons v vs ih =>
                unfold rstE
                by_cases hv2 : v = i
                · subst hv2
                  exact List.getElem?_set_self (by rw [rstE_len, ss.len, tc.len, wipe_length, ← s'.len]; exact hil)
                · rw [List.getElem?_set_ne hv2]
                  exact ih ((List.mem_cons.mp hm).resolve_left fun z => hv2 z.symm)
            rw [this hiv]
            have e : env'[i]? = some env'[i] := by simp [hil]
            rw [e]
            rfl
          · rw [List.getElem?_eq_none (by rw [rstE_len, ss.len, tc.len, wipe_length, ← s'.len]; omega), List.getElem?_eq_none (by omega)]
        · rw [rstE_out hiv, oo.eq i fun z => hi (subr i z)]
          rw [oT.eq i fun z => hiv (hs i z)]
          exact wipeE_out hiv
    have carV : ∀ {H5 : Hp} {ow5 : Ow}, Stp (Mt ++ Me) (n + 1) H2 ow2 H5 ow5 → ∀ i ∈ vs, Car H2 H5 ow2 ow5 (.sl i) (.sl i) := fun {H5 ow5} yy i hi => yy.car (l := .sl i) (hv i hi)
    cases b with
    | false =>
      refine iteF ?_
      have y3' : Stp (Mt ++ Me) (n + 1) H2 ow2 H3 ow3 := y3.mono subl (Nat.le_refl _)
      exact ⟨ow3, _, acc, us, y'.trans y23 (fun _ h => h) (fun _ h => h) (Nat.le_refl _) (Nat.le_refl _), s2.rst s4 tc hs (carV y3'), outs (o4.mono subl) s4, hD3.1, hDo3, hr.mono same3, Nat.le_succ_of_le hl, z4.2 rfl⟩
    | true =>
      refine iteT ?_
      refine ⟨n + 1, ow3, env4, _, noX, s4, z4.1 rfl, fun v w H4 ow4 env5 y4 s5 o5 r4 z5 => ?_, xk0⟩
      split at z5
      · rename_i e
        have rv := Tq.fz_.mp r4
        have hD4 := y4 D _ hD3.1 (by rw [hDo3]; exact Nat.lt_succ_self n)
        have hDo4 : ow4 D = .tm n := by rw [hD4.2, hDo3]
        have same4 : Same (Bs H' ow') (Bs H4 ow4) := fun a o e => y4.bs a o (same3 a o e)
        have yu : Stp (Mt ++ Me) n H4 ow4 (upd H4 D (.lst (us ++ [v]))) ow4 := ⟨fun a o ea pa => by
          have ne : a ≠ D := fun z => by
            rw [z, hDo4] at pa
            exact absurd pa (Nat.lt_irrefl n)
          exact ⟨by rw [upd_ne ne]; exact ea, rfl⟩, fun a ws ea => by
          have ne : a ≠ D := fun z => by rw [z, hD4.1] at ea; cases ea
          rw [upd_ne ne]; exact ea⟩
        have y34 : Stp (Mt ++ Me) (n + 1) H2 ow2 H4 ow4 := y3.trans y4 subl subr (Nat.le_refl _) (Nat.le_refl _)
        have y25 : Stp (Mt ++ Me) n H2 ow2 (upd H4 D (.lst (us ++ [v]))) ow4 := y34.trans yu (fun _ h => h) (fun _ h => h) (Nat.le_succ _) (Nat.le_refl _)
        have s5u : StOk K (upd H4 D (.lst (us ++ [v]))) ow4 σ3 env5 := ⟨s5.len, fun i t e => by
          obtain ⟨w, e1, r⟩ := s5.at_ i t e
          refine ⟨w, e1, Car.tq ⟨yu.bs, fun a o ea eo => ?_⟩ r⟩
          have ne : a ≠ D := fun z => by
            rw [z, hDo4] at eo
            cases eo
          exact ⟨by rw [upd_ne ne]; exact ea, eo⟩⟩
        have carU : ∀ i ∈ vs, Car H2 (upd H4 D (.lst (us ++ [v]))) ow2 ow4 (.sl i) (.sl i) := fun i hi => ⟨y25.bs, fun a o ea eo => by
          obtain ⟨e1, e2⟩ := y34 a o ea (by rw [eo]; exact hv i hi)
          have ne : a ≠ D := fun z => by
            rw [z, hDo4] at e2
            rw [z] at eo
            rw [eo] at e2
            cases e2
          exact ⟨by rw [upd_ne ne]; exact e1, e2.trans eo⟩⟩
        have yall : Stp (Mi ++ (Mt ++ Me)) n H1 ow1 (upd H4 D (.lst (us ++ [v]))) ow4 := (y'.trans y2 (fun _ h => h) (fun _ h => h) (Nat.le_refl _) (Nat.le_refl _)).trans y25 (fun _ h => h) subr (Nat.le_refl _) (Nat.le_refl _)
        refine ⟨us, hD4.1, Nat.lt_of_le_of_lt hl (Nat.lt_of_lt_of_le hlt J1.sz), ow4, _, acc ++ [e], us ++ [v], yall, s2.rst s5u tc hs carU, outs (o4.trans o5 subl subr) s5, upd_same, hDo4, ?_, by rw [List.length_append]; simpa using hl, z5⟩
        exact (hr.mono fun a o e => yu.bs a o (same4 a o e)).app (.cons (rv.mono yu.bs) .nil)
      · exact z5.elim
  · have e : j = ds.length := by omega
    subst e
    exact .inl ⟨J1.stop H' ow' y'.fs, k (.ref D) (.ow .lst acc) H' ow' env' (key y') s' (o1.trans o' subl (fun _ h => h)) ⟨_, .ow (dx := D) ⟨hDl, Nat.le_trans hl J1.sz, trivial⟩ (fun b fb => by
      have eb : b = D := fb
      rw [eb]; exact hDo) hr⟩ (ie acc env' ij)⟩
end QV

set_option Elab.async false
set_option linter.all false
set_option maxRecDepth 100000
set_option maxHeartbeats 2000000
namespace QV
open PySem L2

section
variable {X : Cx} {W : WX} {Mi Mt Me M IO SS : List Nat} {elt tg iter e : Expr} {ifs : List Expr} {scope : Scope} {own : List (Str × Nat)} {pos spos py : Pos} {qi : SemI} {g : SemG} {t : SemT} {q : SemE} {y : Str} {i : Nat}
theorem q_lc (hc : X.calm = true) (hN : X.N.Nodup) (hi : QI X W Mi tg iter qi) (ok : BlkOk X.N X.env.scope scope own)
    (hg : ∀ (s : Shared) (H : Hp) (C : Addr) (cl : List (Str × Addr)) (fp : List Addr), QG (X.blk s H scope (compEnvC scope cl C X.env) fp) SS tg g) (ht : ∀ (s : Shared) (H : Hp) (C : Addr) (cl : List (Str × Addr)) (fp : List Addr), QTs (X.blk s H scope (compEnvC scope cl C X.env) fp) W0 Mt ifs t)
    (he : ∀ (s : Shared) (H : Hp) (C : Addr) (cl : List (Str × Addr)) (fp : List Addr), QE (X.blk s H scope (compEnvC scope cl C X.env) fp) W0 Me elt q) (hs : ∀ i ∈ SS, i ∈ own.map (·.2) := by decide) (hv : ∀ i ∈ own.map (·.2), i ∉ Mt ++ Me := by decide)
    (hf : ∀ x, foldedSetIterable iter X.env x = pure x := by intro _; rfl) : QE X W (Mi ++ (Mt ++ Me)) (.ListComp elt [⟨tg, iter, ifs, 0⟩] scope pos) (sLc qi g t q (own.map (·.2))) :=
  ⟨PE_imp (pe_lc hc hN hi.run ok (fun s H C cl fp => (hg s H C cl fp).run) (fun s H C cl fp => (ht s H C cl fp).run) (fun s H C cl fp => (he s H C cl fp).run) hf) fun _ _ _ h => lc_run hs hv h⟩
theorem set_run {K : PySem.W.Frag} {te : TE} {D : Ends} {σ : L2.St} {H : Hp} (hio : i ∉ IO) (h : tS K W IO (sSet i q) D σ H) (f : ∀ Qv, tQ K W M q σ H Qv → te σ H Qv) : tAsg te (gName i) D σ H := by
  obtain ⟨ow, env, De, s, hq, k⟩ := h
  exact f _ ⟨0, ow, env, _, De.ex, s, hq, fun v t H' ow' env' y s' _ r z =>
    have ⟨y2, s2⟩ := into_slot s' r
    k.nx _ _ _ _ (y.fs.trans y2.fs) (ios_set hio) s2 z, k.ex.xk⟩
theorem fz_run {K : PySem.W.Frag} {σ : L2.St} {H : Hp} {Qv : VK} (h : tQ K W M (sFz q) σ H Qv) : tQ K W M q σ H Qv := by
  obtain ⟨n, ow, env, Q, E, s, hq, k, x⟩ := h
  exact ⟨n, ow, env, fun t env' => Q (.fz t.d) env', E, s, hq, fun v t H' ow' env' y s' o r z => by
    have y2 : Stp [] n H' ow' H' (Ow.mv ow' (.tm n) .base) := Stp.mv not_tm
    exact k v (.fz t.d) H' _ env' (y.trans y2 (fun _ h => h) nilsub (Nat.le_refl _) (Nat.le_refl _)) (s'.stp0 y2) o (Tq.fz_.mpr (r.frz (fun z => nomatch z))) z, x⟩
theorem s_setLcF (i : Nat) (hc : X.calm = true) (hN : X.N.Nodup) (hi : QI X W Mi tg iter qi) (ok : BlkOk X.N X.env.scope scope own)
    (hg : ∀ (s : Shared) (H : Hp) (C : Addr) (cl : List (Str × Addr)) (fp : List Addr), QG (X.blk s H scope (compEnvC scope cl C X.env) fp) SS tg g) (ht : ∀ (s : Shared) (H : Hp) (C : Addr) (cl : List (Str × Addr)) (fp : List Addr), QTs (X.blk s H scope (compEnvC scope cl C X.env) fp) W0 Mt ifs t)
    (he : ∀ (s : Shared) (H : Hp) (C : Addr) (cl : List (Str × Addr)) (fp : List Addr), QE (X.blk s H scope (compEnvC scope cl C X.env) fp) W0 Me elt q) (hy : X.N[i]? = some y := by rfl) (hyl : X.env.scope.names.lookup y = some .local := by rfl)
    (hsw : swapsWith (.ListComp elt [⟨tg, iter, ifs, 0⟩] scope pos) (some (.Name y py)) spos.line X.env = pure true := by exact sw_true rfl rfl rfl (by decide +kernel)) (hs : ∀ i ∈ SS, i ∈ own.map (·.2) := by decide) (hv : ∀ i ∈ own.map (·.2), i ∉ Mt ++ Me := by decide) (hio : i ∉ IO := by decide)
    (hf : ∀ x, foldedSetIterable iter X.env x = pure x := by intro _; rfl) : QS X W IO (.Assign [.Name y py] (.ListComp elt [⟨tg, iter, ifs, 0⟩] scope pos) spos) (sSet i (sFz (sLc qi g t q (own.map (·.2))))) :=
  ⟨PS_imp (ps_setLc hc hN hy hyl hsw hi.run ok (fun s H C cl fp => (hg s H C cl fp).run) (fun s H C cl fp => (ht s H C cl fp).run) (fun s H C cl fp => (he s H C cl fp).run) hf) fun _ _ _ h => set_run (M := Mi ++ (Mt ++ Me)) hio h fun _ z => lc_run hs hv (fz_run z)⟩
end

section
variable {K : PySem.W.Frag} {H : Hp} {ow : Ow} {σ : L2.St} {env : Env} {i n : Nat} {ds : List D}
theorem own_at (s : StOk K H ow σ env) (e : env[i]? = some (some (.ow .lst ds))) : ∃ a vs, σ[i]? = some (some (.ref a)) ∧ H a = some (.lst vs) ∧ vs.length ≤ sizeLine ∧ Rps K (Bs H ow) vs ds ∧ ow a = .sl i := by
  obtain ⟨v, e1, S, r⟩ := s.at_ i _ e
  cases r with
  | ow c f r => exact ⟨_, _, e1, c.at_, c.sz, r, f _ rfl⟩
theorem own_set {a : Addr} {ds' : List D} {vs' : List V} (hc : ∀ ws, H a ≠ some (.tup ws)) (s : StOk K H ow σ env) (e1 : σ[i]? = some (some (.ref a))) (eo : ow a = .sl i) (hz : vs'.length ≤ sizeLine) (r : Rps K (Bs H ow) vs' ds') :
    Stp [i] n H ow (upd H a (.lst vs')) ow ∧ StOk K (upd H a (.lst vs')) ow σ (env.set i (some (.ow .lst ds'))) ∧ Out [i] env (env.set i (some (.ow .lst ds'))) := by
  have y : ∀ {m : Nat}, Stp [i] m H ow (upd H a (.lst vs')) ow := fun {m} => ⟨fun b o e q => by
    have ne : b ≠ a := fun z => by
      rw [z, eo] at q
      exact absurd (show i ∈ [i] by simp) q
    exact ⟨by rw [upd_ne ne]; exact e, rfl⟩, fun b ws e => by
    have ne : b ≠ a := fun z => hc ws (z ▸ e)
    rw [upd_ne ne]; exact e⟩
  refine ⟨y, s.stp (y (m := 0)) Out.set1 fun j t hj e => ?_, Out.set1⟩
  have ej : j = i := by simpa using hj
  subst ej
  have hl : j < env.length := by
    rw [s.len]
    exact (List.getElem?_eq_some_iff.mp e1).1
  rw [List.getElem?_set_self hl] at e
  cases e
  exact ⟨_, e1, _, .ow (dx := a) ⟨upd_same, hz, trivial⟩ (fun b fb => by
    have eb : b = a := fb
    rw [eb]; exact eo) (r.mono (y (m := 0)).bs)⟩
end
def isLst : Option (Option T) → Bool
  | some (some (.ow .lst _)) => true
  | _ => false
def sMt (i : Nat) (qs : SemD) (g : List D → List D → (D → List D → Prop) → Prop) : SemE := fun env Q E => isLst env[i]? = true ∧ qs env (fun ds env1 => match env1[i]? with
  | some (some (.ow .lst xs)) => g xs ds fun d xs' => Q (.fz d) (env1.set i (some (.ow .lst xs')))
  | _ => False) E
def MtO (K : PySem.W.Frag) (r : V → List V → Hp → VK → Prop) (g : List D → List D → (D → List D → Prop) → Prop) : Prop := ∀ (H : Hp) (B : Hp) (a : Addr) (us vs : List V) (xs ds : List D) (Q : D → List D → Prop) (Qv : VK), H a = some (.lst us) → us.length ≤ sizeLine → Rps K B us xs → Rps K B vs ds → g xs ds Q →
  (∀ v d us' xs', Rp K B v d → us'.length ≤ sizeLine → Rps K B us' xs' → Q d xs' → Qv v (upd H a (.lst us'))) → r (.ref a) vs H Qv
section
variable {X : Cx} {W : WX} {M : List Nat} {ks : List (Option Nat)} {e : Expr} {es : List Expr} {qs : SemD} {x name : Str} {px apos cpos : Pos} {id : String} {r : V → List V → Hp → VK → Prop} {g : List D → List D → (D → List D → Prop) → Prop}
theorem ty_list {K : PySem.W.Frag} {H : Hp} {ow : Ow} {σ : L2.St} {env : Env} {i : Nat} (s : StOk K H ow σ env) (h : isLst env[i]? = true) : ∃ a, σ[i]? = some (some (.ref a)) ∧ tyV K "list" (.ref a) H := by
  cases e : env[i]? with
  | none => rw [e] at h; cases h
  | some o =>
    cases o with
    | none => rw [e] at h; cases h
    | some t =>
      rw [e] at h
      cases t with
      | fz _ => cases h
      | nd _ _ => cases h
      | ow k ds =>
        cases k <;> first | cases h | skip
        obtain ⟨a, vs, e1, c, _⟩ := own_at s e
        exact ⟨a, e1, .inl ⟨rfl, vs, .inl (.inl c)⟩⟩
theorem q_mt (i : Nat) (slot : Slot "list" name id) (hty : typeOf (.builtin id) = pure (.type "method_descriptor")) (hm : MtR X id r) (hr : MtO X.K r g) (ha : QA X W M ks (e :: es) qs) (hk : (ks.all fun x => x.isNone) = true := by rfl) (hN : X.N[i]? = some x := by rfl)
    (hv : Vis X.env.scope x := by first | exact Or.inl rfl | exact Or.inr (Or.inl rfl) | exact Or.inr (Or.inr rfl)) (hd : (x == ("__debug__" : Str)) = false := by decide) (hcd : (x == ("__classdict__" : Str)) = false := by decide)
    (hbase : attributeBase (.Name x px) name X.env (eval (.Name x px) X.env) = eval (.Name x px) X.env := by rfl)
    (hfew : ((backTo cpos (starEach (e :: es) X.env)).all (fun x => !x.1) && (backToKw cpos (keywordEach [] X.env)).all (fun x => x.1.isSome)
      && decide ((e :: es).length + ([] : List Keyword).length + (if ([] : List Keyword).isEmpty then 0 else 1) < 30)) = true := by rfl)
    (hline : (apos.endLine == cpos.line) = true := by rfl) (hs : starEach (e :: es) X.env = (false, eval e X.env) :: starEach es X.env := by rfl) (hplain : (backTo cpos (starEach es X.env)).any (·.1) = false := by rfl) :
    QE X W (M ++ [i]) (.Call (.Attribute (.Name x px) name apos) (e :: es) [] cpos) (sMt i qs g) :=
  ⟨PE_imp (pe_bm PySem.F.plainAttrs_list slot hty hm (pe_var (i := i) hN hv hd hcd) ha.run hbase hfew hline hs hplain) fun σ H Qv ⟨n, ow, env, Q, E, s, ⟨h1, hq⟩, k, xx⟩ => by
    obtain ⟨a, e1, ty⟩ := ty_list s h1
    refine ⟨.ref a, e1, ty, tA_data hk s hq (fun r d H' ow' env' y s' o => xx r d H' ow' env' (y.mono subl (Nat.le_refl _)) s' (o.mono subl)) fun vs ds H1 ow1 env1 y1 s1 o1 l1 rr z => ?_⟩
    split at z
    · rename_i xs ee
      obtain ⟨a', us, e2, c, hz, r1, eo⟩ := own_at s1 ee
      rw [e1] at e2
      cases e2
      refine hr H1 (Bs H1 ow1) a us vs xs ds _ Qv c hz r1 rr z fun v d us' xs' rv hz' r' z' => ?_
      obtain ⟨y2, s2, o2⟩ := own_set (n := n) (fun ws z => by rw [c] at z; cases z) s1 e1 eo hz' r'
      exact k v (.fz d) _ ow1 _ (y1.trans y2 subl subr (Nat.le_refl _) (Nat.le_refl _)) s2 (o1.trans o2 subl subr) (Tq.fz_.mpr (rv.mono y2.bs)) z'
    · exact z.elim⟩
end
section
variable {K : PySem.W.Frag}
def gApp (xs ds : List D) (Q : D → List D → Prop) : Prop := match ds with
  | [d] => xs.length < sizeLine ∧ Q .non (xs ++ [d])
  | _ => False
theorem m_app : MtO K rAppend gApp := by
  intro H B a us vs xs ds Q Qv c hz r rr h k
  unfold gApp at h
  split at h
  · rename_i d
    cases rr with
    | cons rv rr =>
      cases rr
      have l := r.len
      exact ⟨a, us, _, rfl, rfl, c, by omega, k _ _ _ _ .non (by rw [List.length_append]; simp; omega) (r.app (.cons rv .nil)) h.2⟩
  · exact h.elim
end
section
variable {X : Cx} {W : WX} {M Ma Mb IO : List Nat} {e ix : Expr} {q qi : SemE} {x : Str} {px pos tpos : Pos}
theorem q_append (i : Nat) {es : List Expr} {ks : List (Option Nat)} {qs : SemD} {apos cpos : Pos} (ha : QA X W M ks (e :: es) qs) (hk : (ks.all fun x => x.isNone) = true := by rfl) (hN : X.N[i]? = some x := by rfl)
    (hv : Vis X.env.scope x := by first | exact Or.inl rfl | exact Or.inr (Or.inl rfl) | exact Or.inr (Or.inr rfl)) (hd : (x == ("__debug__" : Str)) = false := by decide) (hcd : (x == ("__classdict__" : Str)) = false := by decide)
    (hbase : attributeBase (.Name x px) "append" X.env (eval (.Name x px) X.env) = eval (.Name x px) X.env := by rfl)
    (hfew : ((backTo cpos (starEach (e :: es) X.env)).all (fun x => !x.1) && (backToKw cpos (keywordEach [] X.env)).all (fun x => x.1.isSome)
      && decide ((e :: es).length + ([] : List Keyword).length + (if ([] : List Keyword).isEmpty then 0 else 1) < 30)) = true := by rfl)
    (hline : (apos.endLine == cpos.line) = true := by rfl) (hs : starEach (e :: es) X.env = (false, eval e X.env) :: starEach es X.env := by rfl) (hplain : (backTo cpos (starEach es X.env)).any (·.1) = false := by rfl) :
    QE X W (M ++ [i]) (.Call (.Attribute (.Name x px) "append" apos) (e :: es) [] cpos) (sMt i qs gApp) :=
  q_mt i PySem.F.slot_list_append PySem.F.type_list_append mt_append m_app ha hk hN hv hd hcd hbase hfew hline hs hplain
def sStore (i : Nat) (q qi : SemE) : SemS := fun D env => q env (fun t env1 => match t with
  | .fz d => isLst env1[i]? = true ∧ qi env1 (fun u env2 => match u, env2[i]? with
    | .fz (.int k), some (some (.ow .lst xs)) => ∃ j, ixN xs.length k = some j ∧ D.nx (env2.set i (some (.ow .lst (xs.set j d))))
    | _, _ => False) D.ex
  | _ => False) D.ex
theorem s_store (i : Nat) (he : QE X W Ma e q) (hix : QE X W Mb ix qi) (hN : X.N[i]? = some x := by rfl) (hv : Vis X.env.scope x := by first | exact Or.inl rfl | exact Or.inr (Or.inl rfl) | exact Or.inr (Or.inr rfl)) (hd : (x == ("__debug__" : Str)) = false := by decide)
    (hcd : (x == ("__classdict__" : Str)) = false := by decide) (ha : ∀ v, assign (.Subscript (.Name x px) ix tpos) X.env v = (do
      let ov ← holding [v] (eval (.Name x px) X.env)
      let iv ← holding [v, ov] (eval ix X.env)
      standAt tpos
      holding [v, ov, iv] (setItem ov iv v)
      release [v, ov, iv] []) := by intro _; rfl) (hs : swapsWithSole [.Subscript (.Name x px) ix tpos] e pos.line X.env = pure false := by rfl) (hw : swappedStores [.Subscript (.Name x px) ix tpos] e X.env = pure none := by rfl)
    (h1 : (assignEach [.Subscript (.Name x px) ix tpos] X.env).map (·.2) = [assign (.Subscript (.Name x px) ix tpos) X.env] := by rfl) : QS X W IO (.Assign [.Subscript (.Name x px) ix tpos] e pos) (sStore i q qi) :=
  ⟨PS_imp (ps_asg he.run (pg_sub (pe_var (i := i) hN hv hd hcd) hix.run set_list ha) hs hw h1) fun D σ H ⟨ow, env, De, s, hq, k⟩ => ⟨0, ow, env, _, De.ex, s, hq, fun v t H1 ow1 env1 y1 s1 _ r1 z => by
    split at z
    · rename_i d
      obtain ⟨hl, z⟩ := z
      obtain ⟨a, e1, _⟩ := ty_list s1 hl
      refine ⟨.ref a, e1, 1, ow1, env1, _, De.ex, s1, z, fun w u H2 ow2 env2 y2 s2 _ r2 z2 => ?_, (k.ex.step y1.fs Ios.refl).xk⟩
      split at z2
      · rename_i kk xs e2
        obtain ⟨j, hj, z2⟩ := z2
        obtain ⟨a', us, e3, c, hz, rr, eo⟩ := own_at s2 e2
        rw [e1] at e3
        cases e3
        have ew := Tq.rd r2
        cases ew
        have rd := (Tq.fz_.mp r1).mono y2.bs
        refine ⟨a, us, kk, j, rfl, rfl, c, by rw [rr.len]; exact hj, ?_⟩
        obtain ⟨y3, s3, _⟩ := own_set (n := 0) (fun ws z => by rw [c] at z; cases z) s2 e1 eo (by rw [List.length_set]; exact hz) (rr.set rd j)
        exact k.nx _ _ _ _ ((y1.fs.trans y2.fs).trans y3.fs) Ios.refl s3 z2
      · exact z2.elim
    · exact z.elim, k.ex.xk⟩⟩
end
theorem pget_list {X : Cx} : PGet X (fun o i H Q => ∃ p xs k v, o = .ref p ∧ i = .int k ∧ SqL X.K H p xs ∧ atI xs k = some v ∧ Q v H) := by
  intro pins s σ H o i ov iv Q I ro ri ⟨p, xs, k, v, e1, e2, hq, he, q⟩
  subst e1 e2
  cases ro
  obtain ⟨t, rfl⟩ := ri
  obtain ⟨its, r, pl, hz⟩ := I.list hq
  obtain ⟨j, h1, h2, h3, h4, h5⟩ := atI_get he
  obtain ⟨w, ew, rw'⟩ := r.get h2
  have hl := r.length
  have hn := line63
  have fin : EP X pins σ Q w s := ⟨v, H, I, rw', q⟩
  by_cases h0 : 0 ≤ k
  · have hj : k.toNat = j := by
      rw [PySem.seqIndex_of h0 h5] at h1
      exact Option.some.inj h1
    exact PySem.wpAny_getItem_list pl.isList h0 (by omega) (by rw [hj]; simpa using ew) fin
  · have hj : (k + (its.toArray.size : Int)).toNat = j := by
      rw [PySem.seqIndex_neg (by omega) h4] at h1
      rw [List.size_toArray, ← hl]
      exact Option.some.inj h1
    exact PySem.wpAny_getItem_list_neg pl.isList (by omega) (by rw [List.size_toArray] <;> omega) (by omega) (by rw [hj]; simpa using ew) fin
def sAugS (i : Nat) (qi q : SemE) (f : Int → Int → Int) : SemS := fun D env => isLst env[i]? = true ∧ qi env (fun u env1 => match u, env1[i]? with
  | .fz (.int k), some (some (.ow .lst xs)) => ∃ j, ixN xs.length k = some j ∧ ∃ m : Int, xs[j]? = some (.int m) ∧ q env1 (fun t env2 => match t, env2[i]? with
    | .fz (.int b), some (some (.ow .lst ys)) => j < ys.length ∧ ys.length = xs.length ∧ D.nx (env2.set i (some (.ow .lst (ys.set j (.int (f m b))))))
    | _, _ => False) D.ex
  | _, _ => False) D.ex
section
variable {X : Cx} {W : WX} {M Ma Mb IO : List Nat} {e ix : Expr} {q qi : SemE} {x : Str} {px pos tpos : Pos} {op : Operator} {f : Int → Int → Int}
theorem s_augS (i : Nat) (hop : PIp X op (ipI f)) (hix : QE X W Mb ix qi) (he : QE X W Ma e q) (hN : X.N[i]? = some x := by rfl) (hv : Vis X.env.scope x := by first | exact Or.inl rfl | exact Or.inr (Or.inl rfl) | exact Or.inr (Or.inr rfl)) (hd : (x == ("__debug__" : Str)) = false := by decide)
    (hcd : (x == ("__classdict__" : Str)) = false := by decide) (ha : ∀ ov iv new, augStore ix ov iv new = (do holding [new, ov, iv] (setItem ov iv new); release [new, ov, iv] []; pure .next) := by intros; rfl) :
    QS X W IO (.AugAssign (.Subscript (.Name x px) ix tpos) op e pos) (sAugS i qi q f) :=
  ⟨PS_imp (ps_augS (pe_var (i := i) hN hv hd hcd) hix.run pget_list he.run hop set_list ha) fun D σ H ⟨ow, env, De, s, ⟨h1, hq⟩, k⟩ => by
    obtain ⟨a, e1, _⟩ := ty_list s h1
    refine ⟨.ref a, e1, 0, ow, env, _, De.ex, s, hq, fun w u H1 ow1 env1 y1 s1 _ r1 z1 => ?_, k.ex.xk⟩
    split at z1
    · rename_i kk xs e2
      obtain ⟨j, hj, m, hm, z1⟩ := z1
      obtain ⟨a', us, e3, c, hz, rr, eo⟩ := own_at s1 e2
      rw [e1] at e3
      cases e3
      have ew := Tq.rd r1
      cases ew
      obtain ⟨v, ev, rv⟩ := rr.get hm
      cases rv
      refine ⟨a, us, kk, .int m, rfl, rfl, .inl (.inl c), ?_, 1, ow1, env1, _, De.ex, s1, z1, fun w2 t H2 ow2 env2 y2 s2 _ r2 z2 => ?_, (k.ex.step y1.fs Ios.refl).xk⟩
      · unfold L2.atI
        rw [rr.len, hj]
        exact ev
      · split at z2
        · rename_i bb ys e4
          obtain ⟨hjl, hly, z2⟩ := z2
          obtain ⟨a', us2, e5, c2, hz2, rr2, eo2⟩ := own_at s2 e4
          rw [e1] at e5
          cases e5
          have ew2 := Tq.rd r2
          cases ew2
          refine ⟨m, bb, rfl, rfl, a, us2, kk, j, rfl, rfl, c2, by rw [rr2.len, hly]; exact hj, ?_⟩
          obtain ⟨y3, s3, _⟩ := own_set (n := 0) (fun ws z => by rw [c2] at z; cases z) s2 e1 eo2 (by rw [List.length_set]; exact hz2) (rr2.set (.int (f m bb)) j)
          exact k.nx _ _ _ _ ((y1.fs.trans y2.fs).trans y3.fs) Ios.refl s3 z2
        · exact z2.elim
    · exact z1.elim⟩
end
end QV

set_option Elab.async false
set_option linter.all false
set_option maxRecDepth 100000
set_option maxHeartbeats 2000000
namespace QV
open PySem L2

def cutL {α : Type} (xs : List α) (lo hi : Option Int) : List α := (xs.drop (HT.sIx xs.length 0 lo)).take (HT.sIx xs.length xs.length hi - HT.sIx xs.length 0 lo)
abbrev SemO := Env → (Option Int → Env → Prop) → XQ → Prop
def tO (K : PySem.W.Frag) (W : WX) (M : List Nat) (q : SemO) : TO := fun σ H Qv => ∃ (n : Nat) (ow : Ow) (env : Env) (Q : Option Int → Env → Prop) (E : XQ), StOk K H ow σ env ∧ q env Q E ∧
  (∀ (o : Option Int) (H' : Hp) (ow' : Ow) (env' : Env), Stp M n H ow H' ow' → StOk K H' ow' σ env' → Out M env env' → Q o env' → Qv o H') ∧ Xk K W M σ H n ow env E
structure QO (X : Cx) (W : WX) (M : List Nat) (e : Option Expr) (q : SemO) : Prop where
  run : PO X e (tO X.K W M q)
theorem PO_imp {X : Cx} {e : Option Expr} {t t' : TO} (h : PO X e t) (f : ∀ σ H Q, t' σ H Q → t σ H Q) : PO X e t' := ⟨fun pins s σ H Q I q => h.run pins s σ H Q I (f _ _ _ q)⟩
def oNone : SemO := fun env Q _ => Q none env
def oSome (q : SemE) : SemO := fun env Q E => q env (fun t env1 => match t with
  | .fz (.int i) => Q (some i) env1
  | _ => False) E
def SlG (K : PySem.W.Frag) (r : V → Option Int → Option Int → Hp → VK → Prop) (g : T → Option Int → Option Int → (T → Prop) → Prop) : Prop := ∀ (H : Hp) (ow : Ow) (n : Nat) (x : V) (t : T) (lo hi : Option Int) (Q : T → Prop) (Qv : VK), Ro K H ow x t → g t lo hi Q →
  (∀ v w H' ow', Stp [] n H ow H' ow' → Tq K H' ow' (.tm n) v w → Q w → Qv v H') → r x lo hi H Qv
def sSl (pa : SemP) (ql qh : SemO) (g : T → Option Int → Option Int → (T → Prop) → Prop) : SemE := fun env Q E => pa env (fun t _ env1 => ql env1 (fun lo env2 => qh env2 (fun hi env3 => g t lo hi fun w => Q w env3) E) E) E
section
variable {X : Cx} {W : WX} {M Ma Ml Mh : List Nat} {e : Expr} {lo hi : Option Expr} {pa : SemP} {q : SemE} {ql qh : SemO} {ra : Option Nat} {pos p2 : Pos}
theorem o_none : QO X W [] none oNone := ⟨PO_imp po_none fun σ H Qv ⟨n, ow, env, Q, E, s, hq, k, x⟩ => k none H ow env Stp.refl s Out.refl hq⟩
theorem o_some (h : QE X W M e q) : QO X W M (some e) (oSome q) := ⟨PO_imp (po_some h.run) fun σ H Qv ⟨n, ow, env, Q, E, s, hq, k, x⟩ => ⟨n, ow, env, _, E, s, hq, fun v t H' ow' env' y s' o r z => by
  split at z
  · have := Tq.rd r
    cases this
    exact ⟨_, rfl, k _ H' ow' env' y s' o z⟩
  · exact z.elim, x⟩⟩
theorem q_sl {r : V → Option Int → Option Int → Hp → VK → Prop} {g : T → Option Int → Option Int → (T → Prop) → Prop} (hs : SlR X r) (hg : SlG X.K r g) (ha : QP X W Ma ra e pa) (hl : QO X W Ml lo ql) (hh : QO X W Mh hi qh) (hr : okR ra Ml = true := by decide) (hr2 : okR ra Mh = true := by decide) :
    QE X W (Ma ++ (Ml ++ Mh)) (.Subscript e (.Slice lo hi none p2) pos) (sSl pa ql qh g) :=
  ⟨PE_imp (pe_slice hs ha.run hl.run hh.run) fun σ H Qv ⟨n, ow, env, Q, E, s, hq, k, x⟩ => ⟨n, ow, env, _, E, s, hq, fun v t pt H1 ow1 env1 y1 s1 o1 r1 z1 =>
    ⟨n + 1, ow1, env1, _, E, s1, z1, fun l H2 ow2 env2 y2 s2 o2 z2 => ⟨n + 1, ow2, env2, _, E, s2, z2, fun u H3 ow3 env3 y3 s3 o3 z3 => by
      have y12 := y1.trans y2 subl (fun i h => subr i (subl i h)) (Nat.le_refl _) (Nat.le_succ _) (M := Ma ++ (Ml ++ Mh))
      have o12 := o1.trans o2 subl (fun i h => subr i (subl i h)) (M := Ma ++ (Ml ++ Mh))
      have r3 := ((r1.stp y2 o2 hr (Nat.lt_succ_self _)).stp y3 o3 hr2 (Nat.lt_succ_self _)).ro s3
      exact hg H3 ow3 n v t l u _ Qv r3 z3 fun v' w H4 ow4 y4 r4 z4 => k v' w H4 ow4 env3 ((y12.trans y3 (fun _ h => h) (fun i h => subr i (subr i h)) (Nat.le_refl _) (Nat.le_succ _)).trans y4 (fun _ h => h) nilsub (Nat.le_refl _) (Nat.le_refl _)) (s3.stp0 y4) (o12.trans o3 (fun _ h => h) (fun i h => subr i (subr i h))) r4 z4,
      x.step (y1.trans y2 subl (fun i h => subr i (subl i h)) (Nat.le_refl _) (Nat.le_succ _)) (o1.trans o2 subl (fun i h => subr i (subl i h))) (fun _ h => h) (fun i h => subr i (subr i h)) (Nat.le_refl _) (Nat.le_succ _)⟩,
      x.step y1 o1 subl (fun i h => subr i (subl i h)) (Nat.le_refl _) (Nat.le_succ _)⟩, fun r d H' ow' env' y s' o => x r d H' ow' env' (y.mono subl (Nat.le_refl _)) s' (o.mono subl)⟩⟩
end
section
variable {K : PySem.W.Frag}
theorem cutV_eq (xs : List V) (lo hi : Option Int) : cutV xs lo hi = cutL xs lo hi := rfl
theorem Rps.cut {B : Hp} {vs : List V} {ds : List D} (r : Rps K B vs ds) (lo hi : Option Int) : Rps K B (cutL vs lo hi) (cutL ds lo hi) := by
  unfold cutL
  rw [r.len]
  exact (r.drop _).take _
theorem cut_ints (ns : List Int) (lo hi : Option Int) : cutL (ns.map V.int) lo hi = (cutL ns lo hi).map V.int := by
  unfold cutL
  rw [List.length_map, ← List.map_drop, ← List.map_take]
def slG (t : T) (lo hi : Option Int) (Q : T → Prop) : Prop := match t with
  | .fz (.nd .lst ds) => Q (.ow .lst (cutL ds lo hi))
  | .ow .lst ds => Q (.ow .lst (cutL ds lo hi))
  | .fz (.scr ns) => ns.length ≤ sizeLine ∧ Q (.ow .lst ((cutL ns lo hi).map .int))
  | .fz (.nd .tup ds) => Q (.fz (.nd .tup (cutL ds lo hi)))
  | .fz (.str z) => z.length ≤ sizeLine ∧ Q (.fz (.str (cutS z lo hi)))
  | _ => False
def rSlAll (K : PySem.W.Frag) : V → Option Int → Option Int → Hp → VK → Prop := fun x lo hi H Q => rSlL K x lo hi H Q ∨ rSlA K x lo hi H Q ∨ rSlS x lo hi H Q
theorem sl_all {X : Cx} : SlR X (rSlAll X.K) := sl_list.or (sl_tupA.or sl_str)
theorem g_sl : SlG K (rSlAll K) slG := by
  intro H ow n x t lo hi Q Qv rx h k
  have lst : ∀ {ds : List D}, shL t = some ds → Q (.ow .lst (cutL ds lo hi)) → rSlAll K x lo hi H Qv := fun {ds} e q => by
    obtain ⟨a, vs, rfl, c, z, r⟩ := rx.lst e
    exact .inl ⟨a, vs, rfl, .inl (.inl c), fun p hp => k _ _ _ (Ow.put ow p (.tm n)) (Stp.new hp) (Tq.newL hp (Nat.le_trans (cutV_length _ _ _) z) (r.cut lo hi)) q⟩
  unfold slG at h
  split at h
  · exact lst rfl h
  · exact lst rfl h
  · rename_i ns
    have rd := rx.rd
    cases rd with
    | scr c =>
      refine .inl ⟨_, _, rfl, c, fun p hp => k _ _ _ (Ow.put ow p (.tm n)) (Stp.new hp) (Tq.newL hp ?_ ?_) h.2⟩
      · exact Nat.le_trans (cutV_length _ _ _) (by rw [List.length_map]; exact h.1)
      · rw [cutV_eq, cut_ints]
        exact of_ints _
  · rename_i ds
    obtain ⟨a, vs, rfl, c, z, r⟩ := rx.tup rfl
    refine .inr (.inl ⟨a, vs, rfl, c, fun w => ?_, fun _ p hp => k _ _ _ (Ow.put ow p .base) (Stp.new hp) (Tq.fz_.mpr (.tup (by rw [bs_of put_same, upd_same]) (Nat.le_trans (cutV_length _ _ _) z) ((r.cut lo hi).mono (Stp.bs (M := []) (n := 0) (Stp.new hp))))) h⟩)
    have e : cutL ds lo hi = ds := by
      unfold cutL
      rw [← r.len, w.1, w.2]
      simp [r.len]
    rw [e] at h
    exact k _ _ H ow Stp.refl (by obtain ⟨l, rx⟩ := rx; exact Tq.fz_.mpr (Tq.fz_.mp rx)) h
  · exact .inr (.inr ⟨_, rx.str, h.1, k _ _ H ow Stp.refl (Tq.fz_.mpr (.str _)) h.2⟩)
  · exact h.elim
end
section
variable {X : Cx} {W : WX} {M Ma Ml Mh : List Nat} {e : Expr} {lo hi : Option Expr} {pa : SemP} {q : SemE} {ql qh : SemO} {ra : Option Nat} {pos p1 p2 p3 : Pos}
theorem q_slice (ha : QP X W Ma ra e pa) (hl : QO X W Ml lo ql) (hh : QO X W Mh hi qh) (hr : okR ra Ml = true := by decide) (hr2 : okR ra Mh = true := by decide) : QE X W (Ma ++ (Ml ++ Mh)) (.Subscript e (.Slice lo hi none p2) pos) (sSl pa ql qh slG) := q_sl sl_all g_sl ha hl hh hr hr2
def Mt1 (K : PySem.W.Frag) (r : V → List V → Hp → VK → Prop) (g : Str → T → (T → Prop) → Prop) : Prop := ∀ (H : Hp) (ow : Ow) (n : Nat) (x : Str) (v : V) (t : T) (Q : T → Prop) (Qv : VK), Ro K H ow v t → g x t Q →
  (∀ v w H' ow', Stp [] n H ow H' ow' → Tq K H' ow' (.tm n) v w → Q w → Qv v H') → r (.str x) [v] H Qv
def sM1 (q : SemE) (pa : SemP) (g : Str → T → (T → Prop) → Prop) : SemE := fun env Q E => q env (fun t env1 => match t with
  | .fz (.str x) => pa env1 (fun u _ env2 => g x u fun w => Q w env2) E
  | _ => False) E
theorem q_m1 {o : Expr} {id : String} {name : Str} {apos : Pos} {r : V → List V → Hp → VK → Prop} {g : Str → T → (T → Prop) → Prop} (slot : Slot "str" name id) (ty : typeOf (.builtin id) = pure (.type "method_descriptor")) (rule : MtR X id r) (hg : Mt1 X.K r g) (ho : QE X W Ma o q) (he : QP X W Ml ra e pa)
    (hs : starEach [e] X.env = [(false, eval e X.env)] := by rfl) (hbase : attributeBase o name X.env (eval o X.env) = eval o X.env := by rfl) (hline : (apos.endLine == pos.line) = true := by rfl) : QE X W (Ma ++ Ml) (.Call (.Attribute o name apos) [e] [] pos) (sM1 q pa g) :=
  ⟨PE_imp (pe_m1 slot ty rule ho.run he.run hs hbase hline) fun σ H Qv ⟨n, ow, env, Q, E, s, hq, k, x⟩ => ⟨n, ow, env, _, E, s, hq, fun v t H1 ow1 env1 y1 s1 o1 r1 z1 => by
    split at z1
    · have rd := Tq.rd r1
      cases rd
      refine ⟨⟨_, rfl⟩, n + 1, ow1, env1, _, E, s1, z1, fun w u pt H2 ow2 env2 y2 s2 o2 r2 z2 => ?_, x.step y1 o1 subl subr (Nat.le_refl _) (Nat.le_succ _)⟩
      exact hg H2 ow2 n _ w u _ Qv (r2.ro s2) z2 fun v' w' H3 ow3 y3 r3 z3 => k v' w' H3 ow3 env2 ((y1.trans y2 subl subr (Nat.le_refl _) (Nat.le_succ _)).trans y3 (fun _ h => h) nilsub (Nat.le_refl _) (Nat.le_refl _)) (s2.stp0 y3) (o1.trans o2 subl subr) r3 z3
    · exact z1.elim, fun r d H' ow' env' y s' o => x r d H' ow' env' (y.mono subl (Nat.le_refl _)) s' (o.mono subl)⟩⟩
def joinG (a : Str) (t : T) (Q : T → Prop) : Prop := ∃ ys : List Str, seqT t = some (ys.map .str) ∧ (ys.map (·.length)).sum + ys.length * a.length ≤ 16777216 ∧ Q (.fz (.str (Txt.join a ys)))
theorem strs_of {K : PySem.W.Frag} {B : Hp} : ∀ {vs : List V} {ns : List Str}, Rps K B vs (ns.map .str) → vs = ns.map V.str
  | _, [], .nil => rfl
  | _, n :: ns, .cons r s => by
    cases r
    rw [List.map_cons, strs_of s]
theorem g_join {K : PySem.W.Frag} : Mt1 K (fun x xs H Q => ∃ a p, ∃ ys : List Str, x = .str a ∧ xs = [.ref p] ∧ (SqL K H p (ys.map V.str) ∨ SqT K H p (ys.map V.str)) ∧ (ys.map (·.length)).sum + ys.length * a.length ≤ 16777216 ∧ Q (.str (Txt.join a ys)) H) joinG := by
  intro H ow n x v t Q Qv rv ⟨ys, e, hz, q⟩ k
  obtain ⟨a, vs, rfl, c, z, r⟩ := rv.seq e
  have ev := strs_of r
  subst ev
  exact ⟨x, a, ys, rfl, rfl, c, hz, k _ _ H ow Stp.refl (Tq.fz_.mpr (.str _)) q⟩
theorem q_join {o : Expr} {apos : Pos} (ho : QE X W Ma o q) (he : QP X W Ml ra e pa) (hs : starEach [e] X.env = [(false, eval e X.env)] := by rfl) (hbase : attributeBase o "join" X.env (eval o X.env) = eval o X.env := by rfl) (hline : (apos.endLine == pos.line) = true := by rfl) :
    QE X W (Ma ++ Ml) (.Call (.Attribute o "join" apos) [e] [] pos) (sM1 q pa joinG) := q_m1 F.slot_str_join F.type_str_join mt_join g_join ho he hs hbase hline
end
def shwD (d : D) : Prop := d.py.showable = true ∧ d.py.shown.length ≤ sizeLine
theorem noDict_of_lay : ∀ d : PyData, d.canLay0 = true → d.hasDict = false := fun d h => PyData.hasDict_of_canLay d h
def rRepr (K : PySem.W.Frag) : List V → Hp → VK → Prop := fun xs H Q => ∃ x d, xs = [x] ∧ Dp K H x d ∧ SeqAt.shaped d = true ∧ d.showable = true ∧ d.shown.length ≤ sizeLine ∧ Q (.str d.shown) H
theorem c_repr {X : Cx} (hG : X.A.guards = some []) (hu : X.A.units + 66 < cLine) : CallR X (.builtin "repr") (rRepr X.K) := by
  intro pins s σ H xs us Q I r ⟨x, d, ex, hd, hs, hw, hz, q⟩
  subst ex
  obtain ⟨u, rfl, ru⟩ := vals1 r
  have hl := SeqAt.canLay_of_shaped hs
  have hdep := SeqAt.depth_of_shaped hs
  obtain ⟨as, rd⟩ := Dp.reads I d x u hd ru
  cases hd with
  | non => cases ru; rw [PyData.shown_none] at q; exact PySem.P.repr_of_none ⟨.str _, H, I.tok _, ⟨_, rfl⟩, q⟩
  | bl b => cases ru; rw [PyData.shown_bool] at q; exact PySem.P.repr_of_bool ⟨.str _, H, I.tok _, ⟨_, by cases b <;> rfl⟩, q⟩
  | int i => obtain ⟨t, rfl⟩ := ru; rw [PyData.shown_int] at q; exact PySem.P.repr_of_int (by simpa [PyData.showable] using hw) ⟨.str _, H, I.tok _, ⟨_, rfl⟩, q⟩
  | str z => obtain ⟨t, rfl⟩ := ru; rw [PyData.shown_str] at q hz; exact PySem.P.repr_of_str ⟨.str _, H, I.tok _, ⟨_, rfl⟩, q⟩ hz
  | lst h1 h2 =>
    cases ru
    exact repr_of_reads' rd hw (fun z => by rw [noDict_of_lay _ hl] at z; cases z) hG (by omega) (fun _ _ e => e) (fun h' u tk hk => ⟨.str _, H, I.kept hk, ⟨_, rfl⟩, q⟩) hz
  | tup h1 h2 =>
    cases ru
    exact repr_of_reads' rd hw (fun z => by rw [noDict_of_lay _ hl] at z; cases z) hG (by omega) (fun _ _ e => e) (fun h' u tk hk => ⟨.str _, H, I.kept hk, ⟨_, rfl⟩, q⟩) hz
def reprG (t : T) (Q : T → Prop) : Prop := t.d.pl 64 = true ∧ shwD t.d ∧ Q (.fz (.str t.d.py.shown))
theorem g_repr {K : PySem.W.Frag} : Op1 K (fun x H Q => rRepr K [x] H Q) reprG := by
  intro H ow n x t Q Qv rx ⟨h1, h2, q⟩ k
  exact ⟨x, _, rfl, rx.rd.dp _ h1, D.pl_shaped h1 (Nat.le_refl _), h2.1, h2.2, k _ _ H ow Stp.refl (Tq.fz_.mpr (.str _)) q⟩
end QV

set_option Elab.async false
set_option linter.all false
set_option maxRecDepth 100000
set_option maxHeartbeats 2000000
namespace QV
open PySem PySem.Spec PyProof.Rows L2

theorem hu65 {A : Around} {k : Nat} (hr : Room k A) : A.units + 65 < cLine := by have := hr.un; omega
theorem hu66 {A : Around} {k : Nat} (hr : Room k A) : A.units + 66 < cLine := by have := hr.un; omega
theorem bt_len : bootBuiltins "len" = some (.builtin "len") := by decide +kernel
theorem bt_abs : bootBuiltins "abs" = some (.builtin "abs") := by decide +kernel
theorem bt_all : bootBuiltins "all" = some (.builtin "all") := by decide +kernel
theorem bt_any : bootBuiltins "any" = some (.builtin "any") := by decide +kernel
theorem bt_min : bootBuiltins "min" = some (.builtin "min") := by decide +kernel
theorem bt_repr : bootBuiltins "repr" = some (.builtin "repr") := by decide +kernel
theorem bt_list : bootBuiltins "list" = some (.type "list") := by decide +kernel
theorem bt_tuple : bootBuiltins "tuple" = some (.type "tuple") := by decide +kernel
theorem bt_int : bootBuiltins "int" = some (.type "int") := by decide +kernel
theorem bt_str : bootBuiltins "str" = some (.type "str") := by decide +kernel
def DefAt (K : PySem.W.Frag) (mg : Str → Option Value) (x : Str) (st : Stmt) (ps : List Str) : Prop := ∃ f fd, Fun K x x st f fd ∧ mg x = some (.ref f) ∧ Binds K fd ps []
def Callee (P : Program) (w : World) (K : PySem.W.Frag) (mg : Str → Option Value) (base : Heap) (k : Nat) (x : Str) (ps : List Str) (io : List Nat) (spec : SemF) : Prop := ∃ f fd, QFn P w K mg base k f fd ps io spec ∧ mg x = some (.ref f) ∧ PySem.W.keepIn K (.ref f) = true ∧ Binds K fd ps []
section
variable {P : Program} {w : World} {K : PySem.W.Frag} {mg : Str → Option Value} {base : Heap}
theorem callee_of {k : Nat} {x : Str} {st : Stmt} {N ps : List Str} {io : List Nat} {spec : SemF} (Df : DefAt K mg x st ps) (S : FnScope N ps (defScope st)) (hio : (io.all fun i => decide (i < ps.length)) = true) (hpN : ps.length ≤ N.length)
    (hb : ∀ (f : Addr) (cdv : Value) (A : Around) (outer : List PySem.Env) (s : Shared) (H : Hp) (E : XK) (W : WX), Room k (A.deeper (envOfC x (defScope st) s.heap.objs.size f cdv)) → A.guards = some [] → L2.Takes (cxOf (L2.CX P w) P w K mg base N x (defScope st) f cdv A outer s H E) W →
      PassesOwn (model P w) (A.deeper (envOfC x (defScope st) s.heap.objs.size f cdv)) (envOfC x (defScope st) s.heap.objs.size f cdv) (cxOf (L2.CX P w) P w K mg base N x (defScope st) f cdv A outer s H E).xe →
      ∃ q, QSs (cxOf (L2.CX P w) P w K mg base N x (defScope st) f cdv A outer s H E) W io (defBody st) q ∧ ∀ args Q E, args.length = ps.length → spec args Q E → q (EndsF io Q E) (env0 N.length args)) : Callee P w K mg base (k + 1) x ps io spec :=
  let ⟨f, fd, F, m, b⟩ := Df
  ⟨f, fd, qfn_of F S hio hpN (hb f), m, F.kp, b⟩
theorem Callee.imp {k : Nat} {x : Str} {ps : List Str} {io : List Nat} {spec spec' : SemF} (C : Callee P w K mg base k x ps io spec) (h : ∀ a Q E, spec' a Q E → spec a Q E) : Callee P w K mg base k x ps io spec' :=
  let ⟨f, fd, F, r⟩ := C
  ⟨f, fd, F.imp h, r⟩
theorem def_at {x : Str} {st : Stmt} {ps : List Str} {h : Heap} {f : Addr} {oc : Value} {od an : Option Addr} {osl : Array (Option Value)} {kV doc pm cdv ct : Value} (X : K.In h) (G : h.Ns mainGlobals mg) (a : PySem.W.nsIn K mainGlobals x = some (some (.ref f)))
    (l : K.lookup f = some ⟨oc, od, .func (PySem.W.fnOf x x (defArgs st) (defBody st) (defScope st) .none kV doc pm an cdv ct), osl⟩) (c : PySem.W.codeIn K cdv x = true) (k : PySem.W.keepIn K (.ref f) = true)
    (hb : ∀ (kV doc pm : Value) (an : Option Addr) (cdv ct : Value) (us : List Value), us.length = ps.length → bindArgs (PySem.W.fnOf x x (defArgs st) (defBody st) (defScope st) .none kV doc pm an cdv ct) ⟨us, []⟩ = pure (ps.zip us)) : DefAt K mg x st ps :=
  have F := fun_mk (x := x) (qual := x) (st := st) l c k
  ⟨f, _, F, PySem.W.mg_of X G a, F.binds hb⟩
end
section
variable {X : Cx} {W : WX} {M : List Nat} {j k : Nat} {ps : List Str} {io : List Nat} {spec : SemF} {ks : List (Option Nat)} {e : Expr} {es : List Expr} {qs : SemD} {x : Str} {p pos : Pos}
theorem q_callC (C : Callee X.prog X.w X.K X.mg X.base k x ps io spec) (tk : L2.Takes X W) (hr : Room k X.A) (hG : X.A.guards = some []) (hg : Gl X x)
    (ha : QA X W M ks (e :: es) qs) (cs : List Nat) (hio : io.Nodup := by decide) (hK : okK ks io cs = true := by decide) (hn : ks.length = ps.length := by rfl) (hdb : (x == ("__debug__" : Str)) = false := by decide) (he : starEach (e :: es) X.env = (false, eval e X.env) :: starEach es X.env := by rfl)
    (hpl : (backTo pos (starEach es X.env)).any (·.1) = false := by rfl) : QE X W (M ++ cs) (.Call (.Name x p) (e :: es) [] pos) (sCall spec ks cs qs) :=
  let ⟨_, _, F, hm, hk, hb⟩ := C
  q_call F tk hr hG hg hm hk hb ha cs hio hK hn hdb he hpl
end
end QV

set_option Elab.async false
set_option linter.all false
set_option maxRecDepth 100000
set_option maxHeartbeats 2000000
namespace QV
open PySem L2
theorem cmulR {i j : Int} (h1 : -(18446744073709551616) < j) (h2 : j < 18446744073709551616) : CMul i j := .inr ⟨by simpa using h1, by simpa using h2⟩
theorem cmulL {i j : Int} (h1 : -(18446744073709551616) < i) (h2 : i < 18446744073709551616) : CMul i j := .inl ⟨by simpa using h1, by simpa using h2⟩
theorem cdivS {i j : Int} (h1 : 0 < j) (h2 : j < 18446744073709551616) : CDivW i j := ⟨h1, by
  have h : j.natAbs.log2 < 64 := (Nat.log2_lt (by omega)).mpr (by omega)
  omega⟩
theorem cdivB {i j : Int} (h1 : 0 < j) (h2 : j < 10000000000000000000000) : CDivW i j := ⟨h1, by
  have h : j.natAbs.log2 < 74 := (Nat.log2_lt (by omega)).mpr (by omega)
  omega⟩
theorem ixN_of {n : Nat} {i : Int} (h0 : 0 ≤ i) (h1 : i < n) : ixN n i = some i.toNat := by
  unfold ixN
  rw [if_pos h0, if_pos h1]
theorem at_lt {α : Type} {ds : List α} {i : Int} (h0 : 0 ≤ i) (h1 : i < ds.length) : ∃ d, atI ds i = some d ∧ d ∈ ds := by
  unfold atI
  rw [ixN_of h0 h1]
  have h2 : i.toNat < ds.length := by omega
  exact ⟨ds[i.toNat], by simp [h2], List.getElem_mem h2⟩
theorem at_all {α : Type} {ds : List α} {i : Int} {C : α → Prop} {R : α → Prop} (h0 : 0 ≤ i) (h1 : i < ds.length) (hC : ∀ d ∈ ds, C d) (k : ∀ d, C d → R d) : ∃ d, atI ds i = some d ∧ R d := by
  obtain ⟨d, e, m⟩ := at_lt h0 h1
  exact ⟨d, e, k d (hC d m)⟩
theorem at_of {α : Type} {l : List α} {k : Nat} {a : α} (h : l[k]? = some a) : atI l (k : Int) = some a := by
  have hk : k < l.length := (List.getElem?_eq_some_iff.mp h).1
  unfold atI
  rw [ixN_of (by omega) (by omega)]
  simpa using h
theorem at_int {α : Type} {l : List α} {i : Int} {a : α} (h0 : 0 ≤ i) (h : l[i.toNat]? = some a) : atI l i = some a := by
  have := at_of h
  rwa [Int.toNat_of_nonneg h0] at this
def IsBag (t : T) : Prop := ∃ a b c : Int, ∃ ns : List Int, t = .ow .lst [.int a, .int b, .int c, .nd .lst (ns.map .int)] ∧ 0 ≤ a ∧ 0 ≤ b ∧ b < 2147483647 ∧ 0 ≤ c ∧ ∀ x, x ∈ ns → 0 ≤ x
def takeS : SemF := fun args Q E => ∃ t n, args = [t, .fz (.int n)] ∧ IsBag t ∧ 0 < n ∧ n < 18446744073709551616 ∧ ∀ v t', 0 ≤ v → v < n → IsBag t' → Q (.fz (.int v)) [t']
def bagS : SemF := fun args Q E => ∃ ns : List Int, args = [.fz (.scr ns)] ∧ ns.length ≤ 63 ∧ ∀ t', IsBag t' → Q t' []
def alikeS : SemF := fun args Q E => ∃ d : D, args = [.fz d, .fz d] ∧ d.pl 64 = true ∧ shwD d ∧ Q (.fz (.bl true)) []
mutual
theorem eqD_self : ∀ (n : Nat) (d : D), d.pl n = true → eqD d d = true
  | _, .non, _ => rfl
  | _, .bl _, _ => by simp [eqD]
  | _, .int _, _ => by simp [eqD]
  | _, .str _, _ => by simp [eqD]
  | n, .scr _, h => by cases n <;> simp [D.pl] at h
  | 0, .nd _ _, h => by simp [D.pl] at h
  | n + 1, .nd .lst ds, h => by rw [eqD]; exact eqDs_self n ds (by simpa [D.pl] using h)
  | n + 1, .nd .tup ds, h => by rw [eqD]; exact eqDs_self n ds (by simpa [D.pl] using h)
  | n + 1, .nd (.dK _) ds, h => by simp [D.pl] at h
  | n + 1, .nd (.dT _) ds, h => by simp [D.pl] at h
  | n + 1, .nd (.lkT _ _) ds, h => by simp [D.pl] at h
  | n + 1, .nd (.lsA _) ds, h => by simp [D.pl] at h
  | n + 1, .nd (.ins _ _) ds, h => by simp [D.pl] at h
theorem eqDs_self : ∀ (n : Nat) (ds : List D), Dspl n ds = true → eqDs ds ds = true
  | _, [], _ => rfl
  | n, d :: ds, h => by
    have h' : D.pl n d = true ∧ Dspl n ds = true := by simpa [Dspl] using h
    rw [eqDs, eqD_self n d h'.1, eqDs_self n ds h'.2]
    rfl
end
end QV

set_option Elab.async false
set_option Elab.async false
set_option linter.all false
set_option maxRecDepth 100000
set_option maxHeartbeats 2000000
namespace QV
open PySem PySem.Spec PyProof.Rows L2
section
variable {P : Program} {w : World} {K : PySem.W.Frag} {mg mb : Str → Option Value} {k : Nat} {fa a : Addr} {p1 : Str} {sp : Sp} {st : Shared}
theorem end_core {us : List Value} (inK : K.In st.heap) (gN : st.heap.Ns mainGlobals mg) (bN : st.heap.Ns builtinsNs mb) (boot : ∀ y : Str, y ≠ "__name__" → mb y = bootBuiltins y) (lim : st.heap.NoLimit) (gens : st.gens = #[])
    (cell : st.heap.get? a = some { cls := .type "list", data := .seq us.toArray }) (room : Room k callerA) (F : ∀ base : Heap, ∃ fd, FnG P w K mg base k fa fd [p1] sp ∧ Binds K fd [p1] [])
    (H : Hp) (only : Only H) (say : sp [.ref a] H (fun v _ => v = .bl true) fun _ _ _ => False) (ok0 : HOk P w H st.heap) (just : ∀ b, H b ≠ none → b = a) (out : H a ≠ none → K.lookup a = none) :
    codeAny (model P w) callerA (.call (.ref fa) ⟨[.ref a], []⟩) (fun r s' => r = .ok (.ret (.bool true)) ∧ OldK st.heap s'.heap ∧ s'.os = st.os ∧ AllBare s'.gens) st := by
  have free : ∀ {b : Addr} {o : Obj} {es : Array DictEntry} {n : Nat}, st.heap.get? b = some o → o.data = .dict es n → H b = none := by
    intro b o es n e1 e2
    rcases Classical.em (H b = none) with z | z
    · exact z
    · have eb := just b z
      subst eb
      have := cell.symm.trans e1
      cases this
      exact Data.noConfusion e2
  have keepNs : ∀ {b : Addr} {m : Str → Option Value}, st.heap.Ns b m → (hidT st.heap H).Ns b m := by
    rintro b m ⟨o, es, n, g1, g2, rest⟩
    exact ⟨o, es, n, hidT_get g1 (free g1 g2), g2, rest⟩
  have inB : K.In (hidT st.heap H) := by
    intro b o e
    refine hidT_get (inK b o e) ?_
    rcases Classical.em (H b = none) with z | z
    · exact z
    · have eb := just b z
      subst eb
      have := (out z).symm.trans e
      cases this
  obtain ⟨mc, lim1, lim2⟩ := lim
  have md : Mod K mg (hidT st.heap H) := ⟨inB, keepNs gN, ⟨mb, keepNs bN, boot⟩, ⟨mc, keepNs lim1, lim2⟩⟩
  have none0 : ∀ {b : Addr}, b ∉ ([] : List Addr) := fun z => nomatch z
  have env0 : Env0 P w K mg (hidT st.heap H) callerA [] st H :=
    ⟨rfl, md, fun _ _ z => of_hidT z, Nat.le_of_eq (hidT_size _ _), trivial, fun _ z => absurd z none0, ok0, .of_eq gens⟩
  obtain ⟨fd, fn, bnd⟩ := F (hidT st.heap H)
  have run := fn.run callerA [] st H ⟨[.ref a], []⟩ [.ref a] [.ref a] _ _ room rfl env0 (bnd st [.ref a] inK rfl) (.cons rfl .nil) say
  refine codeAny_mono run fun r s' told => ?_
  rcases r with ex | fl
  · obtain ⟨_, _, _, _, _, _, _, _, _, _, _, _, z⟩ := told
    exact z.elim
  · cases fl with
    | ret u =>
      obtain ⟨v, H2, os, bare, un, ok2, ru, ev⟩ := told
      cases (show v = .bl true from ev)
      cases (show u = Value.bool true from ru)
      refine ⟨rfl, OldK.of_keep ?_, os, bare⟩
      intro b o e
      rcases only b with z | ⟨oo, ys, z⟩
      · exact un.keep b o e z none0 (by simp)
      · have g1 := (ok0 b _ z).1
        have g2 := (ok2 b _ (un.frzs b oo _ z)).1
        rw [e] at g1
        cases g1
        exact g2
    | next => exact told.elim
    | brk => exact told.elim
    | cont => exact told.elim
theorem end_call {us : List Value} {ns : List Int} (inK : K.In st.heap) (gN : st.heap.Ns mainGlobals mg) (bN : st.heap.Ns builtinsNs mb) (boot : ∀ y : Str, y ≠ "__name__" → mb y = bootBuiltins y) (lim : st.heap.NoLimit) (gens : st.gens = #[])
    (cell : st.heap.get? a = some { cls := .type "list", data := .seq us.toArray }) (nums : IntsAre us ns) (size : ns.length ≤ sizeLine) (room : Room k callerA) (F : ∀ base : Heap, ∃ fd, FnG P w K mg base k fa fd [p1] sp ∧ Binds K fd [p1] [])
    (say : ∀ H : Hp, SqL K H a (ns.map V.int) → sp [.ref a] H (fun v _ => v = .bl true) fun _ _ _ => False) :
    codeAny (model P w) callerA (.call (.ref fa) ⟨[.ref a], []⟩) (fun r s' => r = .ok (.ret (.bool true)) ∧ OldK st.heap s'.heap ∧ s'.os = st.os ∧ AllBare s'.gens) st := by
  have vals := vals_ints nums
  have same := nums.length
  have go := fun H => end_core (p1 := p1) (sp := sp) inK gN bN boot lim gens cell room F H
  rcases lk : K.lookup a with _ | o
  · let H0 : Hp := fun b => if b = a then some (.frz { cls := .type "list", data := .seq us.toArray } (.lst (ns.map V.int))) else none
    have at0 : H0 a = some (.frz { cls := .type "list", data := .seq us.toArray } (.lst (ns.map V.int))) := if_pos rfl
    have off : ∀ {b : Addr}, b ≠ a → H0 b = none := fun z => if_neg z
    refine go H0 (fun b => ?_) (say H0 (.inl (.inr ⟨_, at0⟩))) (fun b u z => ?_) (fun b z => ?_) fun _ => lk
    · rcases Classical.em (b = a) with z | z
      · subst z; exact .inr ⟨_, _, at0⟩
      · exact .inl (off z)
    · rcases Classical.em (b = a) with eb | eb
      · subst eb
        rw [at0] at z
        cases z
        exact ⟨cell, by rw [List.length_map]; exact size, us, _, vals, cell⟩
      · rw [off eb] at z
        cases z
    · exact Classical.byContradiction fun eb => z (off eb)
  · have e := inK a o lk
    rw [cell] at e
    cases e
    exact go (fun _ => none) (fun _ => .inl rfl) (say _ (.inr ⟨_, us.toArray, _, lk, rfl, rfl, rfl, by rw [List.size_toArray, same]; exact size, by simpa using vals⟩)) (fun _ u z => nomatch (show (none : Option HO) = some u from z)) (fun _ z => (z rfl).elim) fun z => (z rfl).elim
end
def lawS (n : Nat) : SemF := fun args Q E => ∃ ns : List Int, args = [.fz (.scr ns)] ∧ ns.length ≤ n ∧ Q (.fz (.bl true)) []
theorem say_law {K : PySem.W.Frag} {H : Hp} {a : Addr} {ns : List Int} {n : Nat} (hn : ns.length ≤ n) (h : SqL K H a (ns.map V.int)) : spQ K 1 [] (lawS n) [.ref a] H (fun v _ => v = .bl true) fun _ _ _ => False := by
  have eB : Bs H (fun _ => Lab.base) = H := by funext b; unfold Bs; exact if_pos rfl
  refine ⟨rfl, fun _ => .base, [.fz (.scr ns)], fun t _ => t = .fz (.bl true), fun _ _ => False, rfl, fun i t e => ?_, ⟨ns, rfl, hn, rfl⟩, fun v t H' ow' outs _ r _ _ q => ?_, fun _ _ _ _ _ _ _ _ _ z => z.elim⟩
  · rcases i with _ | i
    · cases e
      exact ⟨_, rfl, Tq.fz_.mpr (.scr (by rw [eB]; exact h))⟩
    · simp at e
  · subst q
    have e := Tq.rd r
    cases e
    rfl
theorem walk_ofG {l : PySem.W.OpenLaw} {n k : Nat} {q : Program} {loose : List Str} {XP : (Str → Option Value) → Heap → Prop} {YP : World → Heap → Prop} {d : DefRec} {K : Params → PySem.W.Frag} {x : Str}
    (most : l.most = some n) (small : n ≤ sizeLine) (plain : d.params.defaults = []) (room : Room k callerA) (inY : ∀ (w : World) (h : Heap), YP w h → (K w.params).In h)
    (F : ∀ (w : World) (mg : Str → Option Value) (h : Heap), (K w.params).In h → h.Ns mainGlobals mg → ∀ base : Heap, Callee l.prog w (K w.params) mg base k d.name [x] [] (lawS n)) :
    PySem.W.WalkO q loose XP YP l.row.toRowW d [] (fun f vs => PySem.call f vs) := by
  refine Att.attach_call most plain fun w s0 st mg mb fa o pm cd doc a us ns G Y _ _ _ main cell nums many gens => ?_
  have inK := inY w _ Y
  refine end_call inK G.T.g G.T.b G.T.builtins G.T.nolimit gens cell nums (Nat.le_trans many small) room (p1 := x) (sp := spQ (K w.params) 1 [] (lawS n)) (fun base => ?_) fun H h => say_law many h
  obtain ⟨f, fd, fn, e, _, bnd⟩ := F w mg _ inK G.T.g base
  have ef := main.symm.trans e
  cases ef
  exact ⟨fd, fn, bnd⟩
end QV

set_option Elab.async false
set_option linter.all false
set_option maxRecDepth 100000
set_option maxHeartbeats 2000000
namespace QV
open PySem L2
section
variable {X : Cx} {W : WX} {M : List Nat} {e : Expr} {x : Str} {root : Option Nat} {pa : SemP} {q : SemE} {pos p p2 : Pos}
theorem q_glob {n : Int} (hg : Gl X x) (hm : ∃ t, X.mg x = some (.int n t)) (hd : (x == ("__debug__" : Str)) = false := by decide) : QE X W [] (.Name x pos) (sC (.int n)) :=
  let ⟨t, h⟩ := hm
  q_const (pe_glob (v := .int n) hg h ⟨t, rfl⟩ hd) fun _ => .int n
end
def tyN : D → Option String
  | .non => some "NoneType"
  | .bl _ => some "bool"
  | .int _ => some "int"
  | .str _ => some "str"
  | .nd .lst _ => some "list"
  | .nd .tup _ => some "tuple"
  | .nd (.dK _) _ => some "dict"
  | _ => none
theorem tyx {K : PySem.W.Frag} {H : Hp} {x : V} {d : D} {n : String} (r : Rp K H x d) (h : tyN d = some n) : TyX K H x (.type n) := by
  cases r with
  | non => cases h; exact .base .non
  | bl b => cases h; exact .base (.bl b)
  | int i => cases h; exact .base (.int i)
  | str s => cases h; exact .base (.str s)
  | scr _ => cases h
  | exc0 _ _ => cases h
  | exc1 _ _ _ => cases h
  | tup c _ _ =>
    cases h
    exact .base (.tup c)
  | @cell a dx k vs ds hn c _ =>
    cases k with
    | lst => cases h; exact .base (.lst c.at_)
    | tup => exact absurd rfl hn
    | dK ks => cases h; exact .base (.dK c.at_)
    | dT ks => cases h
    | lkT o ks => cases h
    | lsA b => cases h
    | ins C ks => cases h
def kTup : D → Option Bool
  | .nd .tup _ => some true
  | d => (tyN d).map fun _ => false
def kLst : D → Option Bool
  | .nd .lst _ => some true
  | d => (tyN d).map fun _ => false
def kInt : D → Option Bool
  | .bl _ => some true
  | .int _ => some true
  | d => (tyN d).map fun _ => false
def kBl : D → Option Bool
  | .bl _ => some true
  | d => (tyN d).map fun _ => false
def kStr : D → Option Bool
  | .str _ => some true
  | d => (tyN d).map fun _ => false
def KiOk (T : String) (g : D → Option Bool) : Prop := ∀ (K : PySem.W.Frag) (d : D) (b : Bool), g d = some b → ∃ n, tyN d = some n ∧ PySem.W.kitOne K (.type n) (.type T) = some b
theorem ki_tup : KiOk "tuple" kTup := fun K d b h => by
  cases d with
  | nd k ds => cases k <;> cases h <;> exact ⟨_, rfl, rfl⟩
  | _ => cases h <;> exact ⟨_, rfl, rfl⟩
theorem ki_lst : KiOk "list" kLst := fun K d b h => by
  cases d with
  | nd k ds => cases k <;> cases h <;> exact ⟨_, rfl, rfl⟩
  | _ => cases h <;> exact ⟨_, rfl, rfl⟩
theorem ki_int : KiOk "int" kInt := fun K d b h => by
  cases d with
  | nd k ds => cases k <;> cases h <;> exact ⟨_, rfl, rfl⟩
  | _ => cases h <;> exact ⟨_, rfl, rfl⟩
theorem ki_bl : KiOk "bool" kBl := fun K d b h => by
  cases d with
  | nd k ds => cases k <;> cases h <;> exact ⟨_, rfl, rfl⟩
  | _ => cases h <;> exact ⟨_, rfl, rfl⟩
theorem ki_str : KiOk "str" kStr := fun K d b h => by
  cases d with
  | nd k ds => cases k <;> cases h <;> exact ⟨_, rfl, rfl⟩
  | _ => cases h <;> exact ⟨_, rfl, rfl⟩
def isG (g : D → Option Bool) (t : T) (Q : T → Prop) : Prop := ∃ b, g t.d = some b ∧ Q (.fz (.bl b))
theorem bt_bool : bootBuiltins "bool" = some (.type "bool") := by decide +kernel
theorem bt_isinstance : bootBuiltins "isinstance" = some (.builtin "isinstance") := by decide +kernel
section
variable {X : Cx} {W : WX} {M : List Nat} {e : Expr} {y : Str} {root : Option Nat} {pa : SemP} {q : SemE} {pos p p2 : Pos} {T' : String} {g : D → Option Bool}
theorem q_isi (ho : KiOk T' g) (hg : Gl X "isinstance") (hm : X.mg "isinstance" = none) (hg2 : Gl X y) (hm2 : X.mg y = none) (hv2 : bootBuiltins y = some (.type T')) (ha : QP X W M root e pa) (hn2 : y ≠ "__name__" := by decide) (hd2 : (y == ("__debug__" : Str)) = false := by decide)
    (he : starEach [e, .Name y p2] X.env = (false, eval e X.env) :: starEach [.Name y p2] X.env := by rfl) (he2 : starEach [.Name y p2] X.env = (false, eval (.Name y p2) X.env) :: starEach [] X.env := by rfl) (hpl : (backTo pos (starEach [.Name y p2] X.env)).any (·.1) = false := by rfl) :
    QE X W M (.Call (.Name "isinstance" p) [e, .Name y p2] [] pos) (s1 pa (isG g)) :=
  ⟨PE_imp (pe_callB call_isi hg hm bt_isinstance (pa_cons ha.run (pa_cons (pe_bltn (v := .ty T') hg2 hm2 hv2 rfl hn2 hd2) pa_nil he2) he) (by decide) (by decide) he hpl) fun σ H Qv ⟨n, ow, env, Q, E, s, hq, k, x⟩ =>
    ⟨n, ow, env, _, E, s, hq, fun v t pt H' ow' env' y1 s' o r ⟨b, hb, z⟩ => by
      obtain ⟨nm, h1, h2⟩ := ho X.K _ _ hb
      exact ⟨v, .ty T', _, _, b, rfl, .ty T', tyx (r.ro s').rd h1, h2, k (.bl b) (.fz (.bl b)) H' ow' env' y1 s' o (Tq.fz_.mpr (.bl b)) z⟩, x⟩⟩
end
section
variable {K : PySem.W.Frag}
end
section
variable {X : Cx} {W : WX} {M : List Nat} {e : Expr} {root : Option Nat} {pa : SemP} {pos p : Pos}
end
section
variable {X : Cx} {W : WX} {M : List Nat} {e : Expr} {x : Str} {px : Pos}
end
end QV

set_option Elab.async false
set_option linter.all false
set_option maxRecDepth 100000
set_option maxHeartbeats 2000000
namespace QV
open PySem L2
structure Pr (io : Nat) (H : Hp) (ow : Ow) (H' : Hp) (ow' : Ow) : Prop where
  go : ∀ a o, H a = some o → (ow a = .fr ∨ ow a = .base ∨ ow a = .sl io) → H' a = some o ∧ ow' a = ow a
  tp : ∀ a vs, H a = some (.tup vs) → H' a = some (.tup vs)
instance {io : Nat} {H : Hp} {ow : Ow} {H' : Hp} {ow' : Ow} : CoeFun (Pr io H ow H' ow') (fun _ => ∀ a o, H a = some o → (ow a = .fr ∨ ow a = .base ∨ ow a = .sl io) → H' a = some o ∧ ow' a = ow a) := ⟨Pr.go⟩
theorem Pr.of {io n : Nat} {M : List Nat} {H H' : Hp} {ow ow' : Ow} (h : io ∉ M) (x : Stp M n H ow H' ow') : Pr io H ow H' ow' := ⟨fun a o e q => x a o e (by rcases q with q | q | q <;> rw [q] <;> first | trivial | exact h), x.tp⟩
theorem Pr.bs {io : Nat} {H H' : Hp} {ow ow' : Ow} (x : Pr io H ow H' ow') : Same (Bs H ow) (Bs H' ow') := bs_map (fun a o e q => by
  obtain ⟨h1, h2⟩ := x a o e (.inr (.inl q))
  exact ⟨h1, h2.trans q⟩) x.tp
structure ItM (io : Nat) (K : PySem.W.Frag) (H : Hp) (ow : Ow) (J : It) (ds : List D) : Prop where
  go : ∀ (i : Nat) (d : D) (H' : Hp) (ow' : Ow), Pr io H ow H' ow' → ds[i]? = some d → J.go i H'
  yld : ∀ (i : Nat) (d : D) (H' : Hp) (ow' : Ow) (x : V) (H2 : Hp), Pr io H ow H' ow' → ds[i]? = some d → J.yld i H' x H2 → ∃ ow2, Ext H' ow' H2 ow2 ∧ Rp K (Bs H2 ow2) x d
  stop : ∀ (H' : Hp) (ow' : Ow), Pr io H ow H' ow' → J.stop ds.length H'
  sz : ds.length ≤ sizeLine
def tIo (K : PySem.W.Frag) (W : WX) (M : List Nat) (io : Nat) (q : SemI) : TI := fun σ H R => ∃ (n : Nat) (ow : Ow) (env : Env) (Q : List D → Env → Prop) (E : XQ), StOk K H ow σ env ∧ q env Q E ∧
  (∀ (J : It) (ds : List D) (H' : Hp) (ow' : Ow) (env' : Env), Stp M n H ow H' ow' → StOk K H' ow' σ env' → Out M env env' → ItM io K H' ow' J ds → Q ds env' → R J H') ∧ Xk K W M σ H n ow env E
structure QIo (X : Cx) (W : WX) (M : List Nat) (io : Nat) (tg e : Expr) (q : SemI) : Prop where
  run : PI X tg e (tIo X.K W M io q)
theorem itm_list {K : PySem.W.Frag} {H : Hp} {ow : Ow} {io : Nat} {a : Addr} {vs : List V} {ds : List D} (c : H a = some (.lst vs)) (hz : vs.length ≤ sizeLine) (r : Rps K (Bs H ow) vs ds) (eo : ow a = .sl io) : ItM io K H ow (Itl K a) ds := by
  have st : ∀ {H' : Hp} {ow' : Ow}, Pr io H ow H' ow' → SqL K H' a vs := fun x => .inl (.inl (x a _ c (.inr (.inr eo))).1)
  refine ⟨fun i d H' ow' x e => ?_, fun i d H' ow' y H2 x e q => ?_, fun H' ow' x => ⟨vs, st x, Nat.le_of_eq r.len⟩, by rw [← r.len]; exact hz⟩
  · obtain ⟨v, e1, _⟩ := r.get e
    exact ⟨vs, v, st x, e1⟩
  · obtain ⟨rfl, hy⟩ := q
    obtain ⟨v, e1, r1⟩ := r.get e
    have ev := hy vs (st x)
    rw [e1] at ev
    cases ev
    exact ⟨ow', Ext.refl, r1.mono x.bs⟩
theorem itm_listF {K : PySem.W.Frag} {H : Hp} {ow : Ow} {io : Nat} {a : Addr} {vs : List V} {ds : List D} (c : SqL K (Bs H ow) a vs) (hz : vs.length ≤ sizeLine) (r : Rps K (Bs H ow) vs ds) : ItM io K H ow (Itl K a) ds := by
  have st : ∀ {H' : Hp} {ow' : Ow}, Pr io H ow H' ow' → SqL K H' a vs := fun x => (bs_same _ _).seq (x.bs.seq c)
  refine ⟨fun i d H' ow' x e => ?_, fun i d H' ow' y H2 x e q => ?_, fun H' ow' x => ⟨vs, st x, Nat.le_of_eq r.len⟩, by rw [← r.len]; exact hz⟩
  · obtain ⟨v, e1, _⟩ := r.get e
    exact ⟨vs, v, st x, e1⟩
  · obtain ⟨rfl, hy⟩ := q
    obtain ⟨v, e1, r1⟩ := r.get e
    have ev := hy vs (st x)
    rw [e1] at ev
    cases ev
    exact ⟨ow', Ext.refl, r1.mono x.bs⟩
def iOwn (i : Nat) : SemI := fun env Q _ => match env[i]? with
  | some (some (.ow .lst ds)) => Q ds env
  | some (some (.fz (.nd .lst ds))) => Q ds env
  | _ => False
theorem i_own {X : Cx} {W : WX} {tg : Expr} {x : Str} {px : Pos} (i : Nat) (hN : X.N[i]? = some x := by rfl) (hv : Vis X.env.scope x := by first | exact Or.inl rfl | exact Or.inr (Or.inl rfl) | exact Or.inr (Or.inr rfl)) (hd : (x == ("__debug__" : Str)) = false := by decide)
    (hcd : (x == ("__classdict__" : Str)) = false := by decide) : QIo X W [] i tg (.Name x px) (iOwn i) :=
  ⟨PI_imp (pi_list (pe_var (i := i) hN hv hd hcd)) fun σ H R ⟨n, ow, env, Q, E, s, hq, k, xx⟩ => by
    unfold iOwn at hq
    split at hq
    · rename_i ds e
      obtain ⟨a, vs, e1, c, hz, r, eo⟩ := own_at s e
      exact ⟨.ref a, e1, a, rfl, ⟨vs, .inl (.inl c)⟩, k _ _ H ow env Stp.refl s Out.refl (itm_list c hz r eo) hq⟩
    · rename_i ds e
      obtain ⟨v, e1, r0⟩ := s.at_ i _ e
      obtain ⟨a, vs, rfl, c, hz, r⟩ := fz_lst r0
      exact ⟨.ref a, e1, a, rfl, ⟨vs, (bs_same _ _).seq c⟩, k _ _ H ow env Stp.refl s Out.refl (itm_listF c hz r) hq⟩
    · exact hq.elim⟩
theorem lcO_run {io : Nat} {K : PySem.W.Frag} {W : WX} {Mi Mt Me SS vs : List Nat} {qi : SemI} {g : SemG} {t : SemT} {q : SemE} (hso : io ∉ Mi ++ (Mt ++ Me)) (hs : ∀ i ∈ SS, i ∈ vs) (hv : ∀ i ∈ vs, i ∉ Mt ++ Me) {σ : L2.St} {H : Hp} {Qv : VK} (h : tQ K W (Mi ++ (Mt ++ Me)) (sLc qi g t q vs) σ H Qv) :
    tLc (tIo K W Mi io qi) (tG K SS g) (tT K W0 Mt t) (tQ K W0 Me q) vs σ H Qv := by
  obtain ⟨n, ow, env, Q, E, s, hq, k, x⟩ := h
  refine ⟨n, ow, env, _, E, s, hq, fun J ds H1 ow1 env1 y1 s1 o1 J1 hI => ?_, fun r d H' ow' env' y s' o => x r d H' ow' env' (y.mono subl (Nat.le_refl _)) s' (o.mono subl)⟩
  obtain ⟨I, i0, it, ie⟩ := hI.ex
  intro D hD
  have key : ∀ {H' : Hp} {ow' : Ow}, Stp (Mi ++ (Mt ++ Me)) n H1 ow1 H' ow' → Stp (Mi ++ (Mt ++ Me)) n H ow H' ow' := fun y => y1.trans y subl (fun _ h => h) (Nat.le_refl _) (Nat.le_refl _)
  refine ⟨fun j m H' => m = ds.length - j ∧ j ≤ ds.length ∧ ∃ ow' env' acc us, Stp (Mi ++ (Mt ++ Me)) n H1 ow1 H' ow' ∧ StOk K H' ow' σ env' ∧ Out (Mi ++ (Mt ++ Me)) env1 env' ∧ H' D = some (.lst us) ∧ ow' D = .tm n ∧ Rps K (Bs H' ow') us acc ∧ us.length ≤ j ∧ I j acc env',
    ⟨ds.length, by simp, Nat.zero_le _, Ow.put ow1 D (.tm n), env1, [], [], Stp.new hD, s1.stp0 (n := 0) (Stp.new hD), Out.refl, upd_same, put_same, .nil, Nat.le_refl _, i0⟩, ?_⟩
  rintro j m H' ⟨rfl, hj, ow', env', acc, us, y', s', o', hDl, hDo, hr, hl, ij⟩
  by_cases hlt : j < ds.length
  · have hd : ds[j]? = some ds[j] := by simp [hlt]
    refine .inr ⟨J1.go j _ H' ow' (Pr.of hso y') hd, fun H5 => ∃ ow5 env5 acc5 us5, Stp (Mi ++ (Mt ++ Me)) n H1 ow1 H5 ow5 ∧ StOk K H5 ow5 σ env5 ∧ Out (Mi ++ (Mt ++ Me)) env1 env5 ∧ H5 D = some (.lst us5) ∧ ow5 D = .tm n ∧ Rps K (Bs H5 ow5) us5 acc5 ∧ us5.length ≤ j + 1 ∧ I (j + 1) acc5 env5,
      fun H5 ⟨ow5, env5, acc5, us5, q5⟩ => ⟨ds.length - (j + 1), by omega, rfl, hlt, ow5, env5, acc5, us5, q5⟩, fun xv H2 yl => ?_⟩
    obtain ⟨ow2, ex, rx⟩ := J1.yld j _ H' ow' xv H2 (Pr.of hso y') hd yl
    have y2 : Stp (Mi ++ (Mt ++ Me)) n H' ow' H2 ow2 := ex.stp
    have s2 : StOk K H2 ow2 σ env' := s'.stp0 (n := 0) ex.stp
    refine ⟨ow2, wipeE env' vs, _, _, s2.wipe, rx, it j _ acc env' hd ij, fun σ3 env3 tc oT s3 z3 => ?_⟩
    refine ⟨wipe_tch tc hs, n + 1, ow2, env3, _, noX, s3, z3, fun b H3 ow3 env4 y3 s4 o4 z4 => ?_, xk0⟩
    have hD2 := (ex D _ hDl)
    have hD3 := y3 D _ hD2.1 (by rw [hD2.2, hDo]; exact Nat.lt_succ_self n)
    have hDo3 : ow3 D = .tm n := by rw [hD3.2, hD2.2, hDo]
    have same3 : Same (Bs H' ow') (Bs H3 ow3) := fun a o e => y3.bs a o (y2.bs a o e)
    have y23 : Stp (Mi ++ (Mt ++ Me)) n H' ow' H3 ow3 := y2.trans y3 (fun _ h => h) mem3.2.1 (Nat.le_refl _) (Nat.le_succ _)
    have outs : ∀ {e5 : Env} {H5 : Hp} {ow5 : Ow}, Out (Mt ++ Me) env3 e5 → StOk K H5 ow5 σ3 e5 → Out (Mi ++ (Mt ++ Me)) env1 (rstE env' vs e5) := fun {e5 H5 ow5} oo ss => by
      refine ⟨?_, fun i hi => ?_⟩
      · rw [rstE_len, ss.len, tc.len, wipe_length, ← s'.len, o'.len]
      · rw [← o'.eq i hi]
        by_cases hiv : i ∈ vs
        · by_cases hil : i < env'.length
          · have : ∀ {vs : List Nat}, i ∈ vs → (rstE env' vs e5)[i]? = some ((env'[i]?).getD none) := fun {vs} hm => by
              induction vs with
              | nil => simp at hm
              | cons v vs ih =>
                unfold rstE
                by_cases hv2 : v = i
                · subst hv2
                  exact List.getElem?_set_self (by rw [rstE_len, ss.len, tc.len, wipe_length, ← s'.len]; exact hil)
                · rw [List.getElem?_set_ne hv2]
                  exact ih ((List.mem_cons.mp hm).resolve_left fun z => hv2 z.symm)
            rw [this hiv]
            have e : env'[i]? = some env'[i] := by simp [hil]
            rw [e]
            rfl
          · rw [List.getElem?_eq_none (by rw [rstE_len, ss.len, tc.len, wipe_length, ← s'.len]; omega), List.getElem?_eq_none (by omega)]
        · rw [rstE_out hiv, oo.eq i fun z => hi (subr i z)]
          rw [oT.eq i fun z => hiv (hs i z)]
          exact wipeE_out hiv
    have carV : ∀ {H5 : Hp} {ow5 : Ow}, Stp (Mt ++ Me) (n + 1) H2 ow2 H5 ow5 → ∀ i ∈ vs, Car H2 H5 ow2 ow5 (.sl i) (.sl i) := fun {H5 ow5} yy i hi => yy.car (l := .sl i) (hv i hi)
    cases b with
    | false =>
      refine iteF ?_
      have y3' : Stp (Mt ++ Me) (n + 1) H2 ow2 H3 ow3 := y3.mono subl (Nat.le_refl _)
      exact ⟨ow3, _, acc, us, y'.trans y23 (fun _ h => h) (fun _ h => h) (Nat.le_refl _) (Nat.le_refl _), s2.rst s4 tc hs (carV y3'), outs (o4.mono subl) s4, hD3.1, hDo3, hr.mono same3, Nat.le_succ_of_le hl, z4.2 rfl⟩
    | true =>
      refine iteT ?_
      refine ⟨n + 1, ow3, env4, _, noX, s4, z4.1 rfl, fun v w H4 ow4 env5 y4 s5 o5 r4 z5 => ?_, xk0⟩
      split at z5
      · rename_i e
        have rv := Tq.fz_.mp r4
        have hD4 := y4 D _ hD3.1 (by rw [hDo3]; exact Nat.lt_succ_self n)
        have hDo4 : ow4 D = .tm n := by rw [hD4.2, hDo3]
        have same4 : Same (Bs H' ow') (Bs H4 ow4) := fun a o e => y4.bs a o (same3 a o e)
        have yu : Stp (Mt ++ Me) n H4 ow4 (upd H4 D (.lst (us ++ [v]))) ow4 := ⟨fun a o ea pa => by
          have ne : a ≠ D := fun z => by
            rw [z, hDo4] at pa
            exact absurd pa (Nat.lt_irrefl n)
          exact ⟨by rw [upd_ne ne]; exact ea, rfl⟩, fun a ws ea => by
          have ne : a ≠ D := fun z => by rw [z, hD4.1] at ea; cases ea
          rw [upd_ne ne]; exact ea⟩
        have y34 : Stp (Mt ++ Me) (n + 1) H2 ow2 H4 ow4 := y3.trans y4 subl subr (Nat.le_refl _) (Nat.le_refl _)
        have y25 : Stp (Mt ++ Me) n H2 ow2 (upd H4 D (.lst (us ++ [v]))) ow4 := y34.trans yu (fun _ h => h) (fun _ h => h) (Nat.le_succ _) (Nat.le_refl _)
        have s5u : StOk K (upd H4 D (.lst (us ++ [v]))) ow4 σ3 env5 := ⟨s5.len, fun i t e => by
          obtain ⟨w, e1, r⟩ := s5.at_ i t e
          refine ⟨w, e1, Car.tq ⟨yu.bs, fun a o ea eo => ?_⟩ r⟩
          have ne : a ≠ D := fun z => by
            rw [z, hDo4] at eo
            cases eo
          exact ⟨by rw [upd_ne ne]; exact ea, eo⟩⟩
        have carU : ∀ i ∈ vs, Car H2 (upd H4 D (.lst (us ++ [v]))) ow2 ow4 (.sl i) (.sl i) := fun i hi => ⟨y25.bs, fun a o ea eo => by
          obtain ⟨e1, e2⟩ := y34 a o ea (by rw [eo]; exact hv i hi)
          have ne : a ≠ D := fun z => by
            rw [z, hDo4] at e2
            rw [z] at eo
            rw [eo] at e2
            cases e2
          exact ⟨by rw [upd_ne ne]; exact e1, e2.trans eo⟩⟩
        have yall : Stp (Mi ++ (Mt ++ Me)) n H1 ow1 (upd H4 D (.lst (us ++ [v]))) ow4 := (y'.trans y2 (fun _ h => h) (fun _ h => h) (Nat.le_refl _) (Nat.le_refl _)).trans y25 (fun _ h => h) subr (Nat.le_refl _) (Nat.le_refl _)
        refine ⟨us, hD4.1, Nat.lt_of_le_of_lt hl (Nat.lt_of_lt_of_le hlt J1.sz), ow4, _, acc ++ [e], us ++ [v], yall, s2.rst s5u tc hs carU, outs (o4.trans o5 subl subr) s5, upd_same, hDo4, ?_, by rw [List.length_append]; simpa using hl, z5⟩
        exact (hr.mono fun a o e => yu.bs a o (same4 a o e)).app (.cons (rv.mono yu.bs) .nil)
      · exact z5.elim
  · have e : j = ds.length := by omega
    subst e
    exact .inl ⟨J1.stop H' ow' (Pr.of hso y'), k (.ref D) (.ow .lst acc) H' ow' env' (key y') s' (o1.trans o' subl (fun _ h => h)) ⟨_, .ow (dx := D) ⟨hDl, Nat.le_trans hl J1.sz, trivial⟩ (fun b fb => by
      have eb : b = D := fb
      rw [eb]; exact hDo) hr⟩ (ie acc env' ij)⟩
section
variable {X : Cx} {W : WX} {io : Nat} {Mi Mt Me M IO SS : List Nat} {elt tg iter e : Expr} {ifs : List Expr} {scope : Scope} {own : List (Str × Nat)} {pos spos py : Pos} {qi : SemI} {g : SemG} {t : SemT} {q : SemE} {y : Str} {i : Nat}
theorem q_lcO (hc : X.calm = true) (hN : X.N.Nodup) (hi : QIo X W Mi io tg iter qi) (ok : BlkOk X.N X.env.scope scope own)
    (hg : ∀ (s : Shared) (H : Hp) (C : Addr) (cl : List (Str × Addr)) (fp : List Addr), QG (X.blk s H scope (compEnvC scope cl C X.env) fp) SS tg g) (ht : ∀ (s : Shared) (H : Hp) (C : Addr) (cl : List (Str × Addr)) (fp : List Addr), QTs (X.blk s H scope (compEnvC scope cl C X.env) fp) W0 Mt ifs t)
    (he : ∀ (s : Shared) (H : Hp) (C : Addr) (cl : List (Str × Addr)) (fp : List Addr), QE (X.blk s H scope (compEnvC scope cl C X.env) fp) W0 Me elt q) (hso : io ∉ Mi ++ (Mt ++ Me) := by decide) (hs : ∀ i ∈ SS, i ∈ own.map (·.2) := by decide) (hv : ∀ i ∈ own.map (·.2), i ∉ Mt ++ Me := by decide)
    (hf : ∀ x, foldedSetIterable iter X.env x = pure x := by intro _; rfl) : QE X W (Mi ++ (Mt ++ Me)) (.ListComp elt [⟨tg, iter, ifs, 0⟩] scope pos) (sLc qi g t q (own.map (·.2))) :=
  ⟨PE_imp (pe_lc hc hN hi.run ok (fun s H C cl fp => (hg s H C cl fp).run) (fun s H C cl fp => (ht s H C cl fp).run) (fun s H C cl fp => (he s H C cl fp).run) hf) fun _ _ _ h => lcO_run hso hs hv h⟩
end
end QV

set_option Elab.async false
set_option linter.all false
set_option maxRecDepth 100000
set_option maxHeartbeats 2000000
namespace QV
open PySem L2
mutual
def shrt : D → Bool
  | .non => true
  | .bl _ => true
  | .int i => decide (i.natAbs < 10000000000000000000000000000000000000000)
  | .str x => x.cps.toList.all fun c => decide (c < 16 ^ 8)
  | .nd .lst ds => shrts ds
  | .nd .tup ds => shrts ds
  | _ => true
def shrts : List D → Bool
  | [] => true
  | d :: ds => shrt d && shrts ds
end
mutual
def szD : D → Nat
  | .int _ => 140
  | .str x => x.cps.size
  | .nd .lst ds => szDs ds
  | .nd .tup ds => szDs ds
  | _ => 0
def szDs : List D → Nat
  | [] => 0
  | d :: ds => szD d + 1 + szDs ds
end
theorem log2_40 {i : Int} (h : i.natAbs < 10000000000000000000000000000000000000000) : i.natAbs.log2 < 133 := by
  rcases Nat.eq_zero_or_pos i.natAbs with z | z
  · rw [z]; decide
  · exact (Nat.log2_lt (by omega)).mpr (by omega)
mutual
theorem shrt_ok : ∀ d : D, shrt d = true → d.py.leavesShort 41 = true ∧ d.py.showable = true ∧ d.py.weight ≤ szD d
  | .non, _ => ⟨rfl, rfl, by simp [D.py, PyData.weight]⟩
  | .bl _, _ => ⟨rfl, rfl, by simp [D.py, PyData.weight]⟩
  | .int i, h => by
    have h' : i.natAbs < 10000000000000000000000000000000000000000 := by simpa [shrt] using h
    refine ⟨?_, ?_, ?_⟩
    · simp only [D.py, PyData.leavesShort, decide_eq_true_eq]
      have e := int_text_length_le10 (k := 40) (by decide) (show i.natAbs < 10 ^ 40 by omega)
      have e2 : (PyData.int i).shown.length = (toString i).length := by
        rw [PyData.shown_int]
        exact ofString_length _
      rw [e2]
      exact e
    · simp only [D.py, PyData.showable, decide_eq_true_eq]
      have := log2_40 h'
      omega
    · simp only [D.py, PyData.weight, szD]
      have := log2_40 h'
      split <;> omega
  | .str x, h => by
    refine ⟨by simpa [D.py, PyData.leavesShort, shrt] using h, rfl, by simp [D.py, PyData.weight, szD]⟩
  | .scr _, _ => ⟨rfl, rfl, by simp [D.py, PyData.weight]⟩
  | .exc _ _ _ _ _, _ => ⟨rfl, rfl, by simp [D.py, PyData.weight]⟩
  | .nd .lst ds, h => by
    obtain ⟨a, b, c⟩ := shrts_ok ds (by simpa [shrt] using h)
    exact ⟨by simpa [D.py, PyData.leavesShort] using a, by simpa [D.py, PyData.showable] using b, by simpa [D.py, PyData.weight, szD] using c⟩
  | .nd .tup ds, h => by
    obtain ⟨a, b, c⟩ := shrts_ok ds (by simpa [shrt] using h)
    exact ⟨by simpa [D.py, PyData.leavesShort] using a, by simpa [D.py, PyData.showable] using b, by simpa [D.py, PyData.weight, szD] using c⟩
  | .nd (.dK _) ds, _ => ⟨rfl, rfl, by simp [D.py, PyData.weight]⟩
  | .nd (.dT _) ds, _ => ⟨rfl, rfl, by simp [D.py, PyData.weight]⟩
  | .nd (.lkT _ _) ds, _ => ⟨rfl, rfl, by simp [D.py, PyData.weight]⟩
  | .nd (.lsA _) ds, _ => ⟨rfl, rfl, by simp [D.py, PyData.weight]⟩
  | .nd (.ins _ _) ds, _ => ⟨rfl, rfl, by simp [D.py, PyData.weight]⟩
theorem shrts_ok : ∀ ds : List D, shrts ds = true → PyData.leavesShortAll 41 (Dspy ds) = true ∧ PyData.showableAll (Dspy ds) = true ∧ PyData.weightAll (Dspy ds) ≤ szDs ds
  | [], _ => ⟨rfl, rfl, by simp [Dspy, PyData.weightAll]⟩
  | d :: ds, h => by
    have h' : shrt d = true ∧ shrts ds = true := by simpa [shrts] using h
    obtain ⟨a, b, c⟩ := shrt_ok d h'.1
    obtain ⟨a', b', c'⟩ := shrts_ok ds h'.2
    exact ⟨by simp [Dspy, PyData.leavesShortAll, a, a'], by simp [Dspy, PyData.showableAll, b, b'], by simp only [Dspy, PyData.weightAll, szDs]; omega⟩
end
theorem shw_of {d : D} (h : shrt d = true) (hz : szD d ≤ 262144) : shwD d := by
  obtain ⟨a, b, c⟩ := shrt_ok d h
  refine ⟨b, Nat.le_trans (PyData.shown_le 41 (by decide) _ a) ?_⟩
  have h1 : (41 + 2) * d.py.weight + 41 ≤ 43 * 262144 + 41 := by omega
  exact Nat.le_trans h1 (by rw [sizeLine_eq]; decide)
theorem shrts_all : ∀ {ds : List D}, (∀ d, d ∈ ds → shrt d = true) → shrts ds = true
  | [], _ => rfl
  | d :: ds, h => by simp [shrts, h d (by simp), shrts_all (ds := ds) fun e he => h e (by simp [he])]
theorem szDs_le {k : Nat} : ∀ {ds : List D}, (∀ d, d ∈ ds → szD d ≤ k) → szDs ds ≤ ds.length * (k + 1)
  | [], _ => by simp [szDs]
  | d :: ds, h => by
    have h1 := h d (by simp)
    have h2 := szDs_le (ds := ds) fun e he => h e (by simp [he])
    simp only [szDs, List.length_cons, Nat.succ_mul]
    omega
theorem pls_all {n : Nat} : ∀ {ds : List D}, (∀ d, d ∈ ds → d.pl n = true) → Dspl n ds = true
  | [], _ => rfl
  | d :: ds, h => by simp [Dspl, h d (by simp), pls_all (ds := ds) fun e he => h e (by simp [he])]
theorem pl_lst {n : Nat} {ds : List D} (h : ∀ d, d ∈ ds → d.pl n = true) : (D.nd .lst ds).pl (n + 1) = true := by rw [D.pl]; exact pls_all h
theorem pl_tup {n : Nat} {ds : List D} (h : ∀ d, d ∈ ds → d.pl n = true) : (D.nd .tup ds).pl (n + 1) = true := by rw [D.pl]; exact pls_all h
end QV

set_option Elab.async false
set_option linter.all false
set_option maxRecDepth 100000
set_option maxHeartbeats 2000000
namespace QV
open PySem PySem.Spec PyProof.Rows L2
section
variable {X : Cx} {e : Expr} {es : List Expr} {ta : TA} {b : Str} {S : Addr} {p1 p2 pos : Pos}
theorem pe_binit {pl : Sem Bool} (hg : Gl X b) (hm : X.mg b = some (.ref S)) (h1 : PySem.W.specialIn X.K (.ref S) "__getattribute__" = some (some (.builtin "type.__getattribute__"))) (h2 : PySem.W.readsIn X.K S (.type "type") = true)
    (h3 : PySem.W.findCls X.K (.ref S) (.type "type") "__init__" = some (.val (.builtin "ValueError.__init__"))) (ha : PA X (e :: es) ta)
    (hc : eval (.Call (.Attribute (.Name b p1) "__init__" p2) (e :: es) [] pos) X.env = (do
      let own ← eval (.Name b p1) X.env
      standAt p2.atName
      let (init, self) ← holding [own] (getMethod own "__init__" pl)
      callWith pos init self (backTo pos (starEach (e :: es) X.env)) (backToKw pos (keywordEach [] X.env))) := by rfl)
    (hd : (b == ("__debug__" : Str)) = false := by decide) (he : starEach (e :: es) X.env = (false, eval e X.env) :: starEach es X.env := by rfl) (hpl : (backTo pos (starEach es X.env)).any (·.1) = false := by rfl) :
    PE X (.Call (.Attribute (.Name b p1) "__init__" p2) (e :: es) [] pos) (tVeI X.K ta) := by
  constructor
  intro pins s σ H Q I h
  refine PySem.W.methodCall_KW (ld_glob I hg hm ?_ hd) hc
  refine PySem.W.method_cls I.kIn h1 (PySem.W.cls_value I.kIn h2 h3 (by decide +kernel) ?_)
  show wpAny _ _ (callWith pos (Value.builtin "ValueError.__init__") [] (backTo pos (starEach (e :: es) X.env)) []) _ _ _
  refine PyProof.Rows.callWith_method1 (thn (ha.run pos pins _ σ H _ (I.tok _) h) fun us s1 ⟨vs, H1, J, rel, a, C, ws, ev, few, T, at0, q⟩ => ?_) he hpl
  cases ev
  cases rel with
  | cons ra rest =>
    cases (show _ = Value.ref a from ra)
    refine oinit_ok T J at0 ?_ fun s2 J2 => ⟨.non, H1, J2, rfl, q⟩
    have := Paired.length rest
    rw [sizeLine_eq]
    omega
end
section
variable {X : Cx}
theorem bare_end {pins : List (Addr × Obj)} {σ : L2.St} {Ha Hb : Hp} {ha hm hz : Heap} {ga gz : Array GenState} {da dz : Drawn} {ta tz : Nat} {oa oz : OsState} {x C : Addr} (I : Inv X pins σ Ha ⟨ha, ga, da, ta, oa⟩)
    (big : ha.objs.size ≤ x) (grow : ∀ b o, ha.get? b = some o → hm.get? b = some o) (un : Un (frs X.stack) [] (upd Ha x (exo x C none)) Hb hm hz) (ok : HOk X.prog X.w Hb hz) (os : oz = oa) (bare : AllBare gz) (at0 : Hb x = some (exo x C none)) :
    ∃ (t0 : Addr) (G : Heap), Inv X pins σ (del Hb x) ⟨G, gz, dz, tz, oz⟩ ∧ (∀ b o, G.get? b = some o → hz.get? b = some o) ∧ G.get? x = none ∧
      hz.get? x = some ({ cls := .ref C, dict := none, data := .fields #[.ref t0, .none, .none, .none, .bool false, .none] } : Obj) ∧ del Hb x x = none := by
  obtain ⟨t0, stands⟩ := exo_at ok at0
  have fresh : Ha x = none := I.hok.fresh big
  obtain ⟨G, same, gone⟩ := restrict hz fun b => decide (b ≠ x)
  have same : ∀ {b}, b ≠ x → G.get? b = hz.get? b := fun {b} z => same b (decide_eq_true z)
  have gone : G.get? x = none := gone x (by simp)
  have off : ∀ {b : Addr} {o : Obj}, ha.get? b = some o → b ≠ x := fun {b o} z e => by
    subst e
    exact absurd (Heap.lt_size z) (Nat.not_lt.mpr big)
  have mid : ∀ {b : Addr}, b ≠ x → Ha b = none → upd Ha x (exo x C none) b = none := fun {b} z n => (upd_ne z).trans n
  have U : Un (frs X.stack) [] Ha (del Hb x) ha G := {
    keep := fun b o z n f y => (same (off z)).trans (un.keep b o (grow b o z) (mid (off z) n) f y)
    slot := fun b o z n f y => by
      rw [same (off z)]
      exact un.slot b o (grow b o z) (mid (off z) n) f y
    free := fun b o z n y => (del_ne (off z)).trans (un.free b o (grow b o z) (mid (off z) n) y)
    there := fun b o z y => by
      rw [same (off z)]
      exact un.there b o (grow b o z) y
    tups := fun b xs z => (del_ne (ne_of_none z fresh)).trans (un.tups b xs ((upd_ne (ne_of_none z fresh)).trans z))
    frzs := fun b o v z => (del_ne (ne_of_none z fresh)).trans (un.frzs b o v ((upd_ne (ne_of_none z fresh)).trans z))
    tbls := fun b ps z => by
      rw [del_ne (ne_of_none z fresh)]
      exact un.tbls b ps ((upd_ne (ne_of_none z fresh)).trans z) }
  have okG : HOk X.prog X.w (del Hb x) G := fun b o z => by
    have bx : b ≠ x := fun e => by
      subst e
      rw [del_same] at z
      cases z
    rw [del_ne bx] at z
    have ownNe : ∀ {c : Addr}, Hb c = some (.own b) → c ≠ x := fun {c} h => at_ne at0 h exo_own
    refine (ok b o z).stay (fun c v h y => ?_) (fun c h => (del_ne (ownNe h)).trans h) fun c xs h => (del_ne (at_ne at0 h exo_tup)).trans h
    have cx : c ≠ x := by
      rcases h with h | h
      · rw [h]; exact bx
      · exact ownNe h
    exact (same cx).trans y
  refine ⟨t0, G, I.call' (ch := []) os U okG bare (fun b z => absurd z (by simp)), fun b o z => ?_, gone, stands, del_same⟩
  by_cases bx : b = x
  · subst bx
    rw [gone] at z
    cases z
  · exact (same bx).symm.trans z
theorem pmk_bare {x : Str} {C fI : Addr} {k : Nat} {fd : FuncData} {ps : List Str} {sp : Sp} {p pos : Pos} (T : OexC X.K C) (iC : PySem.W.findIn X.K (.ref C) "__init__" = some (some (.ref fI))) (tI : PySem.W.typeIn X.K (.ref fI) = some (.type "function"))
    (Fi : FnOk X.prog X.w X.K X.mg X.base (L2.CX X.prog X.w) k fI fd ps sp) (room : Room (k + 1) X.A) (bnd : Binds X.K fd ps []) (hg : Gl X x) (hm : X.mg x = some (.ref C)) (hdb : (x == ("__debug__" : Str)) = false := by decide) :
    PMk X (.Call (.Name x p) [] [] pos) (fun σ H1 Q => ∀ a, H1 a = none → sp [.ref a] (upd H1 a (exo a C none)) (fun v H2 => v = .non ∧ H2 a = some (exo a C none) ∧ Q (.ref C) none (del H2 a)) fun _ _ _ => False) := by
  intro pins s σ H Q I h
  obtain ⟨nm, q, N, bs, bm, sn, sub, ab, col, dd, k0, k1, k2, k3, k5, hC, hbm⟩ := T.cls
  refine wpAny_Call_Name_kw (ld_glob I hg hm ?_ hdb)
  refine PySem.W.callWith_K0 I.kIn T.kC ?_
  show wpAny _ _ (call (.ref C) []) _ _ _
  obtain ⟨hp, g, dr, tk, os⟩ := s
  have big : hp.objs.size ≤ hp.objs.size + 1 := Nat.le_succ _
  have fresh : H (hp.objs.size + 1) = none := I.hok.fresh big
  have asks := h (hp.objs.size + 1) fresh
  have grow : ∀ b o, hp.get? b = some o → ((hp.push (PySem.W.kdv_tup [])).push (PySem.HandSPX.excO C hp.objs.size)).get? b = some o := fun b o z => Heap.get?_push_of_some _ (Heap.get?_push_of_some _ z)
  have stands : ((hp.push (PySem.W.kdv_tup [])).push (PySem.HandSPX.excO C hp.objs.size)).get? (hp.objs.size + 1) = some (PySem.HandSPX.excO C hp.objs.size) := by heap_get
  have J : Inv X pins σ (upd H (hp.objs.size + 1) (exo (hp.objs.size + 1) C none)) ⟨(hp.push (PySem.W.kdv_tup [])).push (PySem.HandSPX.excO C hp.objs.size), g, dr, tk, os⟩ :=
    I.laid (t' := tk) (a := hp.objs.size + 1) (o := exo (hp.objs.size + 1) C none) (h' := (hp.push (PySem.W.kdv_tup [])).push (PySem.HandSPX.excO C hp.objs.size)) grow big (exo_ok stands)
  have vals : Vals [V.ref (hp.objs.size + 1)] [Value.ref (hp.objs.size + 1)] := .cons rfl .nil
  have len : ([Value.ref (hp.objs.size + 1)] ++ []).length = ps.length := (Fi.len _ _ _ _ asks)
  refine wpAny_call (PySem.HandSPX.call_own PySem.F.excBase_ValueError (fun Y => PySem.HandSPX.refsVE_contains Y bm hbm) (I.kIn _ _ hC) (PySem.W.looks_findIn I.kIn iC) (fun self => PySem.W.bind_fn I.kIn self tI) (by simp)
    (codeAny_mono (Fi.run _ X.stack _ _ ⟨[Value.ref (hp.objs.size + 1)], []⟩ [Value.ref (hp.objs.size + 1)] _ _ (fun _ _ _ => False) (room.make C [] []) (J.env0.make C [] []) (bnd _ [Value.ref (hp.objs.size + 1)] J.kIn len) vals asks) fun r s' back => ?_))
  cases r with
  | error er =>
    obtain ⟨_, _, _, _, _, _, _, _, _, _, _, _, z⟩ := back
    exact z.elim
  | ok fl =>
    cases fl with
    | ret u =>
      obtain ⟨v, H2, os2, bare2, un2, ok2, rv, ev, at0, told⟩ := back
      subst ev
      obtain ⟨h2, g2, d2, t2, os'⟩ := s'
      obtain ⟨t0, G, JG, sub2, gone, st0, na⟩ := bare_end (dz := d2) (tz := t2) I big grow un2 ok2 os2 bare2 at0
      exact ⟨rv, _, _, _, ⟨G, g2, d2, t2, os'⟩, _, .ref C, none, rfl, JG, sub2, gone, st0, ⟨rfl, rfl⟩, rfl, rfl, na, rfl, bare2, raises_own T.exC T.tyC, told⟩
    | next => exact back.elim
    | brk => exact back.elim
    | cont => exact back.elim
end
def spIni (K : PySem.W.Frag) : Sp := fun vs H Q _ => ∃ a C, vs = [.ref a] ∧ OexC K C ∧ H a = some (exo a C none) ∧ Q .non H
structure Bare (X : Cx) (k : Nat) (x : Str) (C : Addr) : Prop where
  mg : X.mg x = some (.ref C)
  ex : ∃ fI fd, OexC X.K C ∧ PySem.W.findIn X.K (.ref C) "__init__" = some (some (.ref fI)) ∧ PySem.W.typeIn X.K (.ref fI) = some (.type "function") ∧ FnOk X.prog X.w X.K X.mg X.base (L2.CX X.prog X.w) k fI fd ["self"] (spIni X.K) ∧ Binds X.K fd ["self"] []
theorem del_upd {H : Hp} {a : Addr} {o : HO} (h : H a = none) : del (upd H a o) a = H := by
  funext b
  rcases Classical.em (b = a) with z | z
  · subst z
    rw [del_same, h]
  · rw [del_ne z, upd_ne z]
theorem s_raise0 {X : Cx} {W : WX} {IO : List Nat} {k : Nat} {x : Str} {C : Addr} {p cpos pos : Pos} (B : Bare X k x C) (tk : L2.Takes X W) (hc : X.calm = true) (room : Room (k + 1) X.A) (hg : Gl X x) (hdb : (x == ("__debug__" : Str)) = false := by decide) :
    QS X W IO (.Raise (some (.Call (.Name x p) [] [] cpos)) none pos) (fun D env => D.ex ⟨C, [], []⟩ env) := by
  obtain ⟨hm, fI, fd, T, iC, tI, Fi, bnd⟩ := B
  refine ⟨PS_imp (ps_raise hc tk (pmk_bare T iC tI Fi room bnd hg hm hdb)) fun D σ H ⟨ow, env, De, s, hq, kk⟩ => ?_⟩
  intro a ha
  refine ⟨a, C, rfl, T, upd_same, rfl, upd_same, ?_⟩
  rw [del_upd ha]
  exact kk.ex _ none σ H ow env Fs.refl Ios.refl s ⟨rfl, rfl⟩ hq
def spIni1 (K : PySem.W.Frag) (f : Str) : Sp := fun vs H Q _ => ∃ a C y, vs = [.ref a, y] ∧ OexC K C ∧ H a = some (exo a C none) ∧ PySem.W.findIn K (.ref C) f = some none ∧ ∀ dx, H dx = none → dx ≠ a → Q .non (upd (upd H dx (exd dx [(f, y)])) a (exo a C (some dx)))
structure Bare1 (X : Cx) (k : Nat) (x : Str) (C : Addr) (f : Str) (ps : List Str) : Prop where
  mg : X.mg x = some (.ref C)
  no : PySem.W.findIn X.K (.ref C) f = some none
  ex : ∃ fI fd, OexC X.K C ∧ PySem.W.findIn X.K (.ref C) "__init__" = some (some (.ref fI)) ∧ PySem.W.typeIn X.K (.ref fI) = some (.type "function") ∧ FnOk X.prog X.w X.K X.mg X.base (L2.CX X.prog X.w) k fI fd ps (spIni1 X.K f) ∧ Binds X.K fd ps []
end QV

set_option Elab.async false
set_option linter.all false
set_option maxRecDepth 100000
set_option maxHeartbeats 2000000
namespace PySem.W
open PySem PySem.Spec PySem.Calls PyProof.Rows
section
variable {prog : Program} {w : World} {A : Around} {E : Value → Shared → Prop} {s : Shared} {K : Frag} {x D : Addr} {ox : Obj} {od : Option Obj}
theorem qv_findData {C : Addr} {name : Str} {a g : Value} (hc : (clsIn K C).isSome = true) (ha : findIn K (.ref C) name = some (some a)) (hg : specialIn K a "__get__" = some (some g)) (ht : takesIn K a = some true) : findObj K C od name = some (.bind g a) := by
  obtain ⟨cd, hc⟩ := Option.isSome_iff_exists.mp hc
  unfold findObj
  rw [hc, Option.bind_some, ha, Option.bind_some]
  simp [hg, ht]
theorem qv_class {Q : Option Value → Shared → Prop} (hga : findIn K (.ref D) "__getattribute__" = some (some (.builtin "BaseException.__getattribute__"))) (hgt : findIn K (.ref D) "__getattr__" = some none) (hsub : subIn K (.ref D) (.type "BaseException") = some true)
    (hdct : hasDictIn K D = true) (ha : findIn K (.ref D) "__class__" = some (some (.builtin "object.__class__")))
    (hn : specialIn K (.builtin "object.__class__") "__get__" = some (some (.builtin "getset_descriptor.__get__"))) (htk : takesIn K (.builtin "object.__class__") = some true) (hm : mroIn K D (.type "object") = some true)
    (X : K.In s.heap) (I : InstAt s.heap x ox D od) (h : Q (some (.ref D)) { s with toks := s.toks + 1 }) : wpAny (model prog w) A (getAttr? (.ref x) "__class__") Q E s := by
  have hf : findObj K D od "__class__" = some (.bind (.builtin "getset_descriptor.__get__") (.builtin "object.__class__")) := qv_findData (by obtain ⟨cd, hc, _⟩ := any_some hdct; rw [hc]; rfl) ha hn htk
  obtain ⟨hp, g, d, t, os⟩ := s
  have L0 := I.type (M := model prog w)
  have L1 := looks_findIn (M := model prog w) X hga
  have L2 := looks_findIn (M := model prog w) X hgt
  have L3 := looks_find (M := model prog w) X I hf
  have sub : Looks (model prog w) hp (isInstance (.ref x) (.type "BaseException")) true := L0.andThen (looks_subIn X hsub)
  have hx0 : (false && onTheHeap (Value.builtin "BaseException.__getattribute__")) = false := rfl
  have hx2 : (Value.builtin "BaseException.__getattribute__" == Value.builtin "object.__getattribute__") = false := by decide +kernel
  have hx1 : (onTheHeap (Value.ref D) && Value.builtin "BaseException.__getattribute__" == Value.builtin "object.__getattribute__") = false := by rw [hx2]; rfl
  unfold getAttr? getAttrBy? getAttrBy
  refine wpAny_bind (wpAny_mkText (wpAny_bind (wpAny_attempt (wpAny_holding (wpAny_bind (L0.at (wpAny_bind (L1.at ?_))))))))
  show wpAny _ _ (if (onTheHeap (Value.ref D) && Value.builtin "BaseException.__getattribute__" == Value.builtin "object.__getattribute__") = true then _ else _) _ _ _
  rw [hx1, if_neg Bool.false_ne_true]
  unfold getAttrByItsOwn hookBefore
  refine wpAny_bind ?_
  rw [if_pos (show onTheHeap (Value.ref D) = true from rfl)]
  refine L2.at ?_
  refine wpAny_bind (wpAny_attempt (wpAny_holding ?_))
  unfold callGetattribute
  rw [hx0, if_neg Bool.false_ne_true]
  unfold boundAndCalled
  rw [PySem.F.excAttr_ValueError.ga.bind (.ref x)]
  refine wpAny_bind (wpAny_pure ?_)
  show wpAny _ _ (call (.builtin "BaseException.__getattribute__") [.ref x, .str "__class__" t]) _ _ _
  refine wpAny_call (codeAny_call_builtin PySem.F.excAttr_ValueError.ga.plain PySem.F.entry_bexc_ga ?_)
  refine @check_slot (model prog w) _ _ ⟨hp, g, d, t + 1, os⟩ "BaseException.__getattribute__" "BaseException" "__getattribute__" (.ref x) [.str "__class__" t] [] _ (by decide +kernel) (by decide +kernel) sub (PySem.F.args_bexc_ga (.ref x) (.str "__class__" t)) ?_
  unfold Builtin.«object.__getattribute__»
  refine wpAny_bind (wpAny_of_eq (a := ((Value.ref x : Value), [Value.str "__class__" t])) (by first | rfl | (simp only [slotArgs]; rfl)) ?_)
  refine wpAny_bind (wpAny_pure (wpAny_bind (L0.at (wpAny_bind (L3.at ?_)))))
  show wpAny _ _ (holding [Value.builtin "object.__class__"] (call (.builtin "getset_descriptor.__get__") [.builtin "object.__class__", .ref x, .ref D]) >>= ret) _ _ _
  refine wpAny_bind (wpAny_holding (wpAny_call (class_get (s := ⟨hp, g, d, t + 1, os⟩) (ox := ox) (od := od) X I hm ?_)))
  refine wpAny_pure ?_
  show wpAny _ _ (handedOut (.ref D)) _ _ _
  rw [handedOut_of (v := .ref D) rfl]
  first
    | exact wpAny_pure (wpAny_pure h)
    | exact wpAny_pure h
    | exact wpAny_pure (wpAny_bind (wpAny_pure (wpAny_pure h)))
theorem qv_kitx (hga : findIn K (.ref D) "__getattribute__" = some (some (.builtin "BaseException.__getattribute__"))) (hgt : findIn K (.ref D) "__getattr__" = some none) (hsub : subIn K (.ref D) (.type "BaseException") = some true) (hdct : hasDictIn K D = true) (ha : findIn K (.ref D) "__class__" = some (some (.builtin "object.__class__")))
    (hn : specialIn K (.builtin "object.__class__") "__get__" = some (some (.builtin "getset_descriptor.__get__"))) (htk : takesIn K (.builtin "object.__class__") = some true) (hm : mroIn K D (.type "object") = some true) :
    KitX K (.ref x) (.ref D) (fun h => InstAt h x ox D od) where
  ty := fun _ _ _ I => I.type
  it := fun _ _ X _ => by
    obtain ⟨cdD, hcD, _⟩ := any_some hdct
    unfold clsIn at hcD
    split at hcD
    · rename_i c' d' cd' sl' ho
      intro A' Q' E' s' k q
      unfold isType loadHead
      exact wpAny_bind (wpAny_loadPart (k _ _ (X _ _ ho)) (wpAny_pure q))
    · cases hcD
  ne := fun h tp dd its n sl X htp => by
    obtain ⟨cdD, hcD, _⟩ := any_some hdct
    refine Bool.eq_false_iff.mpr fun q => ?_
    have e : D = tp := Value.ref.inj (beq_iff_eq.mp q)
    subst e
    unfold clsIn at hcD
    split at hcD
    · rename_i c' d' cd' sl' ho
      have z := (X _ _ ho).symm.trans htp
      cases z
    · cases hcD
  ca := fun X I k => qv_class hga hgt hsub hdct ha hn htk hm X I k
end
end PySem.W
namespace QV
open PySem PySem.Spec PyProof.Rows L2

structure Xt (K : PySem.W.Frag) (mg : Str → Option Value) (ca : Str → Addr) (ns ts cs fs : List Str) (isa : Str → Str → Bool) : Prop where
  mg : ∀ x, x ∈ ts ∨ x ∈ cs → mg x = some (.ref (ca x))
  exc : ∀ x, x ∈ ns → ExcC K (ca x)
  kit : ∀ x, x ∈ ns → ∀ y, y ∈ ts → PySem.W.kitOne K (.ref (ca x)) (.ref (ca y)) = some (isa x y)
  kitV : ∀ x, x ∈ ns → PySem.W.kitOne K (.ref (ca x)) (.type "ValueError") = some true
  exm : ∀ x, x ∈ ns → ∀ y, y ∈ cs → PySem.W.exmOne K (.ref (ca x)) (.ref (ca y)) = some (isa x y)
  no : ∀ x, x ∈ ns → ∀ f, f ∈ fs → PySem.W.findIn K (.ref (ca x)) f = some none
def Pn (X : Cx) (a C : Addr) (d : Option Addr) : Prop := ∃ oe : Obj, (a, oe) ∈ X.pn ∧ Zc (.ref C) d oe ∧ ∃ vs, oe.data = .fields vs
def excP (a C : Addr) (d : Option Addr) (t : T) (k : List Str → List D → Prop) : Prop := match t with
  | .fz (.exc a' C' d' ks ds) => a' = a ∧ C' = C ∧ d' = d ∧ k ks ds
  | _ => False
theorem inst_at {X : Cx} {a C : Addr} {d : Option Addr} {oe : Obj} {pins : List (Addr × Obj)} {σ : L2.St} {H : Hp} {s : Shared} (I : Inv X pins σ H s) (hp : (a, oe) ∈ X.pn) (hz : Zc (.ref C) d oe) (hf : ∃ vs, oe.data = .fields vs) (hd : ∀ dd, d = some dd → ∃ fs, H dd = some (.xd fs)) :
    ∃ od, PySem.W.InstAt s.heap a oe C od := by
  obtain ⟨hget, _⟩ := I.pin (a, oe) (List.mem_append.mpr (.inl hp))
  obtain ⟨vs, hv⟩ := hf
  cases d with
  | none =>
    refine ⟨none, hget, hz.1, ?_, ?_⟩
    · unfold PySem.W.notCls; rw [hv] <;> rfl
    · rw [hz.2] <;> trivial
  | some dd =>
    obtain ⟨fs, ea⟩ := hd dd rfl
    obtain ⟨mA, ⟨od, es, ep, ho, _⟩, _⟩ := (show ObjOk X.prog X.w H s.heap dd (.xd fs) from I.hok dd _ ea)
    refine ⟨some od, hget, hz.1, ?_, ?_⟩
    · unfold PySem.W.notCls; rw [hv] <;> rfl
    · rw [hz.2]; exact ho
def rIsP (K : PySem.W.Frag) (a C : Addr) (d : Option Addr) : List V → Hp → VK → Prop := fun xs H Q => ∃ (c : V) (cv : Value) (b : Bool), xs = [.ref a, c] ∧ (∀ u, RelV c u → u = cv) ∧ PySem.W.kitOne K (.ref C) cv = some b ∧ ExcC K C ∧ (∀ dd, d = some dd → ∃ fs, H dd = some (.xd fs)) ∧ Q (.bl b) H
theorem call_isP {X : Cx} {a C : Addr} {d : Option Addr} (P : Pn X a C d) : CallR X (.builtin "isinstance") (rIsP X.K a C d) := by
  intro pins s σ H xs us Q I r h
  obtain ⟨oe, hp, hz, hf⟩ := P
  obtain ⟨c, cv, b, rfl, hcv, e, G, hd, q⟩ := h
  cases r with
  | cons rx rr =>
    cases rr with
    | cons rt rr =>
      cases rr
      cases rx
      have ec := hcv _ rt
      subst ec
      obtain ⟨od, J⟩ := inst_at I hp hz hf hd
      exact PySem.W.kia_one (PySem.W.qv_kitx G.hg G.hk G.hs G.hd G.ha G.hn G.ht G.hm) I.kIn J e (fun z => nomatch z) fun tk => ⟨.bl b, H, I.kept (t' := tk) fun _ _ z => z, rfl, q⟩
def rIsPT (K : PySem.W.Frag) (a C : Addr) (d : Option Addr) : List V → Hp → VK → Prop := fun xs H Q => ∃ (tp : Addr) (cs : List Addr) (b : Bool), xs = [.ref a, .ref tp] ∧ H tp = some (.tup (cs.map .ref)) ∧ PySem.W.kitAny K (.ref C) (cs.map .ref) = some b ∧ ExcC K C ∧ (∀ dd, d = some dd → ∃ fs, H dd = some (.xd fs)) ∧ Q (.bl b) H
theorem vals_refs : ∀ {cs : List Addr} {us : List Value}, Vals (cs.map V.ref) us → us = cs.map Value.ref
  | [], _, .nil => rfl
  | _ :: _, _, .cons r t => by cases (show _ = Value.ref _ from r); rw [vals_refs t]; rfl
theorem call_isPT {X : Cx} {a C : Addr} {d : Option Addr} (P : Pn X a C d) : CallR X (.builtin "isinstance") (rIsPT X.K a C d) := by
  intro pins s σ H xs us Q I r h
  obtain ⟨oe, hp, hz, hf⟩ := P
  obtain ⟨tp, cs, b, rfl, hT, e, G, hd, q⟩ := h
  cases r with
  | cons rx rr =>
    cases rr with
    | cons rt rr =>
      cases rr
      cases rx
      cases (show _ = Value.ref tp from rt)
      obtain ⟨od, J⟩ := inst_at I hp hz hf hd
      obtain ⟨_, its, rv, o, h1, h2, n, h3⟩ := (show ObjOk X.prog X.w H s.heap tp (.tup (cs.map .ref)) from I.hok tp _ hT)
      have e3 := vals_refs rv
      subst e3
      obtain ⟨oc, od', dt, sl⟩ := o
      simp only at h2 h3
      subst h2 h3
      exact PySem.W.kia_tup (PySem.W.qv_kitx G.hg G.hk G.hs G.hd G.ha G.hn G.ht G.hm) I.kIn J h1 e (fun z => nomatch z) fun tk => ⟨.bl b, H, I.kept (t' := tk) fun _ _ z => z, rfl, q⟩
section
variable {X : Cx} {W : WX} {M : List Nat} {a C : Addr} {d : Option Addr} {e ec : Expr} {root : Option Nat} {pa : SemP} {p pos cp : Pos} {ca : Str → Addr} {ns ts cs fs : List Str} {isa : Str → Str → Bool} {y f : Str}
theorem exc_rd {K : PySem.W.Frag} {H : Hp} {ow : Ow} {v : V} {a C : Addr} {d : Option Addr} {ks : List Str} {ds : List D} (r : Ro K H ow v (.fz (.exc a C d ks ds))) : v = .ref a ∧ (∀ dd, d = some dd → ∃ vs, H dd = some (.xd (ks.zip vs)) ∧ ks.length = vs.length ∧ Rps K (Bs H ow) vs ds) := by
  obtain ⟨l, r⟩ := r
  have r := Tq.fz_.mp r
  cases r with
  | exc0 => exact ⟨rfl, fun dd z => nomatch z⟩
  | exc1 h1 h2 h3 => exact ⟨rfl, fun dd z => by cases z; exact ⟨_, bs_same _ _ _ _ h1, h2, h3⟩⟩
theorem isP_run {r : List V → Hp → VK → Prop} {te : TE} {b : Str → Bool} {σ : L2.St} {H : Hp} {Qv : VK}
    (hq : tQ X.K W M (s1 pa fun t Q => excP a C d t fun _ _ => ∃ x, C = ca x ∧ x ∈ ns ∧ Q (.fz (.bl (b x)))) σ H Qv)
    (hr : ∀ H x, x ∈ ns → C = ca x → (∀ dd, d = some dd → ∃ fs, H dd = some (.xd fs)) → ∀ Qv : VK, (∀ H', (∀ a o, H a = some o → H' a = some o) → (∀ a, H' a ≠ H a → H a = none) → Qv (.bl (b x)) H') → te σ H fun c H2 => r [.ref a, c] H2 Qv) :
    tP X.K W M root pa σ H fun v H1 => te σ H1 fun c H2 => r [v, c] H2 Qv := by
  obtain ⟨n, ow, env, Q, E, s, hq, k, x⟩ := hq
  refine ⟨n, ow, env, _, E, s, hq, fun v t pt H' ow' env' y1 s' o rr z => ?_, x⟩
  dsimp only [excP] at z
  split at z
  · rename_i a' C' d' ks ds
    obtain ⟨rfl, rfl, rfl, nm, ec, hn, z⟩ := z
    obtain ⟨rfl, hd⟩ := exc_rd (rr.ro s')
    refine hr H' nm hn ec (fun dd e => let ⟨vs, h, _⟩ := hd dd e; ⟨_, h⟩) Qv fun H2 h1 h2 => ?_
    have y2 : Stp [] n H' ow' H2 ow' := ⟨fun b o e _ => ⟨h1 b o e, rfl⟩, fun b vs e => h1 b _ e⟩
    exact k (.bl (b nm)) (.fz (.bl (b nm))) H2 ow' env' (y1.trans y2 (fun _ h => h) nilsub (Nat.le_refl _) (Nat.le_refl _)) (s'.stp0 y2) o (Tq.fz_.mpr (.bl _)) z
  · exact z.elim
theorem q_isP (T : Xt X.K X.mg ca ns ts cs fs isa) (P : Pn X a C d) (hy : y ∈ ts) (hg : Gl X "isinstance") (hm : X.mg "isinstance" = none) (hgy : Gl X y) (ha : QP X W M root e pa) (hdy : (y == ("__debug__" : Str)) = false := by decide)
    (he : starEach [e, .Name y cp] X.env = (false, eval e X.env) :: starEach [.Name y cp] X.env := by rfl) (he2 : starEach [.Name y cp] X.env = (false, eval (.Name y cp) X.env) :: starEach [] X.env := by rfl) (hpl : (backTo pos (starEach [.Name y cp] X.env)).any (·.1) = false := by rfl) :
    QE X W M (.Call (.Name "isinstance" p) [e, .Name y cp] [] pos) (s1 pa fun t Q => excP a C d t fun _ _ => ∃ x, C = ca x ∧ x ∈ ns ∧ Q (.fz (.bl (isa x y)))) :=
  ⟨PE_imp (pe_callB (call_isP P) hg hm bt_isinstance (pa_cons ha.run (pa_cons (pe_glob (v := .ref (ca y)) hgy (T.mg y (.inl hy)) rfl hdy) pa_nil he2) he) (by decide) (by decide) he hpl) fun σ H Qv hq =>
    isP_run (te := tC (.ref (ca y))) (r := rIsP X.K a C d) (b := fun x => isa x y) hq fun H x hx ec hd Qv hk => ⟨.ref (ca y), .ref (ca y), isa x y, rfl, fun u h => h, by rw [ec]; exact T.kit x hx y hy, by rw [ec]; exact T.exc x hx, hd, hk H (fun _ _ h => h) fun _ h => (h rfl).elim⟩⟩
theorem q_isV (T : Xt X.K X.mg ca ns ts cs fs isa) (P : Pn X a C d) (hg : Gl X "isinstance") (hm : X.mg "isinstance" = none) (hgy : Gl X "ValueError") (hmy : X.mg "ValueError" = none) (ha : QP X W M root e pa)
    (he : starEach [e, .Name "ValueError" cp] X.env = (false, eval e X.env) :: starEach [.Name "ValueError" cp] X.env := by rfl) (he2 : starEach [.Name "ValueError" cp] X.env = (false, eval (.Name "ValueError" cp) X.env) :: starEach [] X.env := by rfl) (hpl : (backTo pos (starEach [.Name "ValueError" cp] X.env)).any (·.1) = false := by rfl) :
    QE X W M (.Call (.Name "isinstance" p) [e, .Name "ValueError" cp] [] pos) (s1 pa fun t Q => excP a C d t fun _ _ => ∃ x, C = ca x ∧ x ∈ ns ∧ Q (.fz (.bl true))) :=
  ⟨PE_imp (pe_callB (call_isP P) hg hm bt_isinstance (pa_cons ha.run (pa_cons (pe_bltn (v := .ty "ValueError") hgy hmy (by decide +kernel) rfl) pa_nil he2) he) (by decide) (by decide) he hpl) fun σ H Qv hq =>
    isP_run (te := tC (.ty "ValueError")) (r := rIsP X.K a C d) (b := fun _ => true) hq fun H x hx ec hd Qv hk => ⟨.ty "ValueError", .type "ValueError", true, rfl, fun u h => h, by rw [ec]; exact T.kitV x hx, by rw [ec]; exact T.exc x hx, hd, hk H (fun _ _ h => h) fun _ h => (h rfl).elim⟩⟩
inductive Cnames (X : Cx) (ts : List Str) : List Expr → List Str → Prop
  | nil : Cnames X ts [] []
  | cons {y : Str} {es : List Expr} {ys : List Str} (cp : Pos) : y ∈ ts → Gl X y → (y == ("__debug__" : Str)) = false → starEach (.Name y cp :: es) X.env = (false, eval (.Name y cp) X.env) :: starEach es X.env → Cnames X ts es ys → Cnames X ts (.Name y cp :: es) (y :: ys)
theorem cn_pa (T : Xt X.K X.mg ca ns ts cs fs isa) : ∀ {es : List Expr} {ys : List Str}, Cnames X ts es ys → PA X es fun _ H Q => Q (ys.map fun y => V.ref (ca y)) H
  | _, _, .nil => pa_nil
  | _, _, .cons cp hy hg hd hs t => ⟨fun pos pins s σ H Q I h => (pa_cons (pe_glob (v := .ref (ca _)) hg (T.mg _ (.inl hy)) rfl hd) (cn_pa T t) hs).run pos pins s σ H Q I h⟩
theorem cn_sub : ∀ {es : List Expr} {ys : List Str}, Cnames X ts es ys → ∀ y, y ∈ ys → y ∈ ts
  | _, _, .nil, _, h => nomatch h
  | _, _, .cons _ hy _ _ _ t, z, h => by
    rcases List.mem_cons.mp h with rfl | h
    · exact hy
    · exact cn_sub t z h
theorem kit_any (T : Xt X.K X.mg ca ns ts cs fs isa) {x : Str} (hx : x ∈ ns) : ∀ {ys : List Str}, (∀ y, y ∈ ys → y ∈ ts) → PySem.W.kitAny X.K (.ref (ca x)) ((ys.map ca).map .ref) = some (ys.any (isa x))
  | [], _ => rfl
  | y :: ys, h => by
    have h1 := T.kit x hx y (h y List.mem_cons_self)
    have h2 := kit_any T hx (ys := ys) fun z hz => h z (List.mem_cons_of_mem _ hz)
    simp only [List.map_cons, PySem.W.kitAny, h1, List.any_cons]
    cases isa x y
    · simpa using h2
    · rfl
theorem q_isPT {es : List Expr} {ys : List Str} {kk : Nat} {tp : Pos} (T : Xt X.K X.mg ca ns ts cs fs isa) (P : Pn X a C d) (hc : Cnames X ts es ys) (hg : Gl X "isinstance") (hm : X.mg "isinstance" = none) (ha : QP X W M root e pa) (hz : ys.length ≤ 100 := by decide)
    (he : starEach [e, .Tuple es kk tp] X.env = (false, eval e X.env) :: starEach [.Tuple es kk tp] X.env := by rfl) (he2 : starEach [.Tuple es kk tp] X.env = (false, eval (.Tuple es kk tp) X.env) :: starEach [] X.env := by rfl) (hpl : (backTo pos (starEach [.Tuple es kk tp] X.env)).any (·.1) = false := by rfl) :
    QE X W M (.Call (.Name "isinstance" p) [e, .Tuple es kk tp] [] pos) (s1 pa fun t Q => excP a C d t fun _ _ => ∃ x, C = ca x ∧ x ∈ ns ∧ Q (.fz (.bl (ys.any (isa x))))) :=
  ⟨PE_imp (pe_callB (call_isPT P) hg hm bt_isinstance (pa_cons ha.run (pa_cons (pe_tup (cn_pa T hc)) pa_nil he2) he) (by decide) (by decide) he hpl) fun σ H Qv hq =>
    isP_run (te := tTup fun _ H Q => Q (ys.map fun y => V.ref (ca y)) H) (r := rIsPT X.K a C d) (b := fun x => ys.any (isa x)) hq fun H x hx ec hd Qv hk => by
      refine ⟨by rw [List.length_map]; exact Nat.le_trans hz (by decide), fun q hq2 => ⟨q, ys.map ca, ys.any (isa x), rfl, by rw [upd_same, List.map_map]; rfl, by rw [ec]; exact kit_any T hx (cn_sub hc), by rw [ec]; exact T.exc x hx, fun dd e => ?_, hk _ (fun b o e => ?_) fun b hb => ?_⟩⟩
      · obtain ⟨fs', h⟩ := hd dd e
        exact ⟨fs', by rw [upd_ne (ne_of_none h hq2)]; exact h⟩
      · rw [upd_ne (ne_of_none e hq2)]; exact e
      · by_cases z : b = q
        · rw [z]; exact hq2
        · rw [upd_ne z] at hb; exact (hb rfl).elim⟩
end
def sTryAs (i : Nat) (ca : Str → Addr) (ns : List Str) (hit : Str → Bool) (sb : SemS) (ss : Addr → Addr → Option Addr → SemS) : SemS := fun D env => sb { D with ex := fun r env1 => ∃ x, r.C = ca x ∧ x ∈ ns ∧ (hit x = true → ∀ a d, (d.isSome = true ∨ (r.ks = [] ∧ r.ds = [])) → ss a r.C d { D with nx := fun e => D.nx (e.set i none), bk := fun e => D.bk (e.set i none), ct := fun e => D.ct (e.set i none) } (env1.set i (some (.fz (.exc a r.C d r.ks r.ds))))) ∧ (hit x = false → D.ex r env1) } env
theorem s_tryAs {X : Cx} {W : WX} {IO : List Nat} (i : Nat) {y n : Str} {body suite : List Stmt} {b0 : Stmt} {np pos pos' : Pos} {sb : SemS} {ss : Addr → Addr → Option Addr → SemS} {ca : Str → Addr} {ns ts cs fs : List Str} {isa : Str → Str → Bool}
    (T : Xt X.K X.mg ca ns ts cs fs isa) (hy : y ∈ cs) (hgy : Gl X y) (tk : L2.Takes X W) (hN : X.N.Nodup) (hb : ∀ (W1 : WX) (pn : List (Addr × Obj)) (xe : Value → Shared → Prop), L2.Takes (X.tr pn xe) W1 → PassesOwn (model X.prog X.w) X.A X.env xe → QSs (X.tr pn xe) W1 IO body sb)
    (hsu : ∀ (a C : Addr) (d : Option Addr) (pn : List (Addr × Obj)), Pn (X.suite a pn) a C d → QSs (X.suite a pn) W IO (b0 :: suite) (ss a C d))
    (hs : X.stack = X.env :: X.outer := by rfl) (hf : X.env.frame = some X.env.locals := by rfl) (hi : X.N[i]? = some n := by rfl) (hln : X.env.kindOf n = some .local := by rfl) (hdy : (y == ("__debug__" : Str)) = false := by decide) (hio : i ∉ IO := by decide) :
    QS X W IO (.Try body [.ExceptHandler (some (.Name y np)) (some n) (b0 :: suite) pos'] [] [] pos) (sTryAs i ca ns (fun x => isa x y) sb ss) := by
  refine ⟨PS_imp (ps_try_as (c := .ref (ca y)) (tb := fun W1 => tS X.K W1 IO sb) (ts := fun a cls d D σ H => ∃ C : Addr, cls = .ref C ∧ tS X.K W IO (ss a C d) D σ H) (Wout := W) hs hf hN hi hln ⟨hgy, hdy, .inl (T.mg y (.inr hy))⟩ tk (fun W1 pn xe t p => (hb W1 pn xe t p).run)
    (fun a oe cls d pn hz hv => ⟨fun pins s σ H D I ⟨C, ec, q⟩ => by subst ec; exact (hsu a C d ((a, oe) :: pn) ⟨oe, List.mem_cons_self, hz, hv⟩).run.run pins s σ H D I q⟩)) fun D σ H ⟨ow, env, De, s, hq, k⟩ => ?_⟩
  refine ⟨ow, env, _, s, hq, ⟨k.nx, k.rt, k.bk, k.ct, fun r d σ1 H1 ow1 env1 fs io st rz z => ?_⟩⟩
  obtain ⟨x, hx, hn, z1, z2⟩ := z
  have rp : ∀ a, Rp X.K (Bs H1 ow1) (.ref a) (.exc a r.C d r.ks r.ds) := fun a => by
    obtain ⟨rC, rks, rds⟩ := r
    cases d with
    | none => obtain ⟨h1, h2⟩ := rz; subst h1 h2; exact .exc0 _ _
    | some dd => obtain ⟨vs, h1, h2, h3⟩ := rz; exact .exc1 h1 h2 h3
  have dz : d.isSome = true ∨ (r.ks = [] ∧ r.ds = []) := by
    cases d with
    | none => exact .inr rz
    | some _ => exact .inl rfl
  refine ⟨isa x y, by rw [hx]; exact T.exm x hn y hy, fun e a ha => ⟨r.C, rfl, ow1, env1.set i (some (.fz (.exc a r.C d r.ks r.ds))), _, st.set (Tq.fz_.mpr (rp a)), z1 e a d dz, ?_⟩, fun e => k.ex r d σ1 H1 ow1 env1 fs io st rz (z2 e)⟩
  have io1 : Ios IO σ (σ1.set i (some (.ref a))) := io.trans (ios_set hio)
  have un : ∀ {σ2 : L2.St} {H2 : Hp} {ow2 : Ow} {env2 : QV.Env}, StOk X.K H2 ow2 σ2 env2 → StOk X.K H2 ow2 (σ2.set i none) (env2.set i none) := fun {σ2 H2 ow2 env2} s2 => ⟨by simp [s2.len], fun j t ej => by
    by_cases hj : i = j
    · subst hj
      by_cases hl : i < env2.length
      · rw [List.getElem?_set_self hl] at ej
        cases ej
      · rw [List.getElem?_eq_none (by simpa using hl)] at ej
        cases ej
    · rw [List.getElem?_set_ne hj] at ej ⊢
      exact s2.at_ j t ej⟩
  exact ⟨fun σ2 H2 ow2 env2 f2 i2 s2 z => k.nx _ _ _ _ (fs.trans f2) ((io1.trans i2).trans (ios_set hio)) (un s2) z, k.rt.step fs io1, fun σ2 H2 ow2 env2 f2 i2 s2 z => k.bk _ _ _ _ (fs.trans f2) ((io1.trans i2).trans (ios_set hio)) (un s2) z,
    fun σ2 H2 ow2 env2 f2 i2 s2 z => k.ct _ _ _ _ (fs.trans f2) ((io1.trans i2).trans (ios_set hio)) (un s2) z, k.ex.step fs io1⟩
section
variable {P : Program} {w : World} {K : PySem.W.Frag} {mg : Str → Option Value} {base : Heap}
structure FnP (P : Program) (w : World) (K : PySem.W.Frag) (mg : Str → Option Value) (base : Heap) (k : Nat) (f : Addr) (fd : FuncData) (ps : List Str) (sp : Addr → Addr → Option Addr → Sp) : Prop where
  len : ∀ a C d vs H Q E, sp a C d vs H Q E → vs.length = ps.length
  run : ∀ (A : Around) (outer : List PySem.Env) (s : Shared) (H : Hp) (args : Args) (us : List Value) (vs : List V) (Q : VK) (p : Addr × Obj) (C : Addr) (d : Option Addr), L2H.RoomH k A → A.guards = some [] → L2H.PinOk outer H s p → Zc (.ref C) d p.2 → (∃ ws, p.2.data = .fields ws) → Env0 P w K mg base A outer s H → BindsTo s fd args (ps.zip us) → Vals vs us → sp p.1 C d vs H Q (fun _ _ _ => False) →
    codeAny (model P w) A (.call (.ref f) args) (CR (fun _ _ _ _ _ _ => False) outer P w H s Q fun _ _ _ => False) s
abbrev SemX := List D → (D → Prop) → Prop
end
section
variable {X : Cx} {W : WX} {M : List Nat} {k : Nat} {f : Addr} {fd : FuncData} {ps : List Str} {spec : SemX} {ks : List (Option Nat)} {e : Expr} {es : List Expr} {qs : SemD} {x : Str} {p pos : Pos} {a C : Addr} {d : Option Addr}
end
end QV

set_option Elab.async false
set_option linter.all false
set_option maxRecDepth 100000
set_option maxHeartbeats 2000000
namespace QV
open PySem PySem.Spec PyProof.Rows L2
def inCls : Stmt → Nat → Stmt
  | .ClassDef (body := b) .., j => b.getD j (.Pass ⟨0, 0, 0, 0⟩)
  | _, _ => .Pass ⟨0, 0, 0, 0⟩
section
variable {P : Program} {w : World} {K : PySem.W.Frag} {mg : Str → Option Value} {base : Heap}
structure BareG (P : Program) (w : World) (K : PySem.W.Frag) (mg : Str → Option Value) (base : Heap) (k : Nat) (x : Str) (C : Addr) : Prop where
  at_ : mg x = some (.ref C)
  ex : ∃ fI fd, OexC K C ∧ PySem.W.findIn K (.ref C) "__init__" = some (some (.ref fI)) ∧ PySem.W.typeIn K (.ref fI) = some (.type "function") ∧ FnOk P w K mg base (L2.CX P w) k fI fd ["self"] (spIni K) ∧ Binds K fd ["self"] []
structure BareG1 (P : Program) (w : World) (K : PySem.W.Frag) (mg : Str → Option Value) (base : Heap) (k : Nat) (x : Str) (C : Addr) (f : Str) (ps : List Str) : Prop where
  at_ : mg x = some (.ref C)
  no : PySem.W.findIn K (.ref C) f = some none
  ex : ∃ fI fd, OexC K C ∧ PySem.W.findIn K (.ref C) "__init__" = some (some (.ref fI)) ∧ PySem.W.typeIn K (.ref fI) = some (.type "function") ∧ FnOk P w K mg base (L2.CX P w) k fI fd ps (spIni1 K f) ∧ Binds K fd ps []
structure BaseC (K : PySem.W.Frag) (mg : Str → Option Value) (b : Str) : Prop where
  ex : ∃ S, mg b = some (.ref S) ∧ PySem.W.specialIn K (.ref S) "__getattribute__" = some (some (.builtin "type.__getattribute__")) ∧ PySem.W.readsIn K S (.type "type") = true ∧ PySem.W.findCls K (.ref S) (.type "type") "__init__" = some (.val (.builtin "ValueError.__init__"))
theorem kit_sub {x y : Addr} {b : Bool} (h1 : PySem.W.hasDictIn K y = true) (h2 : PySem.W.typeIn K (.ref y) = some (.type "type")) (h3 : PySem.W.subIn K (.ref x) (.ref y) = some b) (hs : PySem.W.subIn K (.ref y) (.ref y) = some true) : PySem.W.kitOne K (.ref x) (.ref y) = some b := by
  unfold PySem.W.kitOne
  by_cases e : (Value.ref x == Value.ref y) = true
  · rw [if_pos e]
    have : x = y := Value.ref.inj (beq_iff_eq.mp e)
    subst this
    rw [h3] at hs
    exact hs.symm
  · rw [if_neg e]
    obtain ⟨cd, hc, _⟩ := PySem.W.any_some h1
    have e2 : ((PySem.W.clsIn K y).isSome && PySem.W.typeIn K (.ref y) == some (.type "type")) = true := by rw [hc, h2] <;> rfl
    show (if ((PySem.W.clsIn K y).isSome && PySem.W.typeIn K (.ref y) == some (.type "type")) = true then PySem.W.subIn K (.ref x) (.ref y) else none) = some b
    rw [if_pos e2]
    exact h3
theorem kit_val {x : Addr} (h : PySem.W.subIn K (.ref x) (.type "ValueError") = some true) : PySem.W.kitOne K (.ref x) (.type "ValueError") = some true := by
  unfold PySem.W.kitOne
  have e : ¬ (Value.ref x == Value.type "ValueError") = true := fun z => by cases (beq_iff_eq.mp z)
  rw [if_neg e]
  show (if PySem.W.kitMeta "ValueError" = true then PySem.W.subIn K (.ref x) (.type "ValueError") else none) = some true
  rw [if_pos (by decide +kernel)]
  exact h
theorem all_in {α : Type} {p : α → Prop} {a : α} {l : List α} (h : p a) (t : ∀ x, x ∈ l → p x) : ∀ x, x ∈ a :: l → p x := fun x hx => by
  rcases List.mem_cons.mp hx with rfl | hx
  · exact h
  · exact t x hx
theorem no_in {α : Type} {p : α → Prop} : ∀ x, x ∈ ([] : List α) → p x := fun _ h => nomatch h
theorem fun_at {x qual : Str} {st : Stmt} {f : Addr} {ps : List Str} {oc : Value} {od an : Option Addr} {osl : Array (Option Value)} {kV doc pm cdv ct : Value}
    (l : K.lookup f = some ⟨oc, od, .func (PySem.W.fnOf x qual (defArgs st) (defBody st) (defScope st) .none kV doc pm an cdv ct), osl⟩) (c : PySem.W.codeIn K cdv qual = true) (k : PySem.W.keepIn K (.ref f) = true)
    (hb : ∀ (kV doc pm : Value) (an : Option Addr) (cdv ct : Value) (us : List Value), us.length = ps.length → bindArgs (PySem.W.fnOf x qual (defArgs st) (defBody st) (defScope st) .none kV doc pm an cdv ct) ⟨us, []⟩ = pure (ps.zip us)) : ∃ fd, Fun K x qual st f fd ∧ Binds K fd ps [] :=
  have F := fun_mk (x := x) (qual := qual) (st := st) l c k
  ⟨_, F, F.binds hb⟩
end
end QV

set_option Elab.async false
set_option linter.all false
set_option maxRecDepth 100000
set_option maxHeartbeats 2000000
namespace QV
open PySem PySem.Spec PyProof.Rows L2
section
variable {X : Cx} {W : WX} {Ma Ml : List Nat} {e o : Expr} {ra rb : Option Nat} {pa pb : SemP} {apos pos : Pos}
end
end QV

set_option Elab.async false
set_option linter.all false
set_option maxRecDepth 100000
set_option maxHeartbeats 2000000
namespace L2
open PySem PySem.Spec PyProof.Rows
section
variable {prog : Program} {w : World} {A : Around} {E : Value → Shared → Prop} {s : Shared} {l : Addr} {xs : Array (Int × Tok)} {its : List Value} {ns : List Int}
end
end L2
namespace QV
open PySem L2
section
variable {K : PySem.W.Frag} {H : Hp} {ow : Ow}
end
section
variable {X : Cx} {W : WX} {M : List Nat} {e : Expr} {q : SemE} {pos p : Pos}
end
section
variable {K : PySem.W.Frag}
end
end QV

set_option Elab.async false
set_option linter.all false
set_option maxRecDepth 100000
set_option maxHeartbeats 2000000
namespace QV
open PySem L2

def T.kids : T → Option (Kd × List T)
  | .ow k ds => some (k, ds.map .fz)
  | .nd k ts => some (k, ts)
  | .fz _ => none
mutual
def T.put : T → List Nat → T → T
  | _, [], u => u
  | .nd k ts, j :: p, u => .nd k (Tput ts j p u)
  | t, _ :: _, _ => t
def Tput : List T → Nat → List Nat → T → List T
  | [], _, _, _ => []
  | t :: ts, 0, p, u => T.put t p u :: ts
  | t :: ts, j + 1, p, u => t :: Tput ts j p u
end
theorem put_nil {t u : T} : T.put t [] u = u := by cases t <;> rfl
theorem put_cons {k : Kd} {ts : List T} {j : Nat} {p : List Nat} {u : T} : T.put (.nd k ts) (j :: p) u = .nd k (Tput ts j p u) := rfl
theorem Tput_succ {t : T} {ts : List T} {j : Nat} {p : List Nat} {u : T} : Tput (t :: ts) (j + 1) p u = t :: Tput ts j p u := rfl
theorem Tput_set {p : List Nat} {u t : T} : ∀ {ts : List T} {j : Nat}, ts[j]? = some t → Tput ts j p u = ts.set j (T.put t p u)
  | [], j, h => by simp at h
  | t' :: ts, 0, h => by simp at h; subst h; rfl
  | t' :: ts, j + 1, h => by rw [Tput_succ, List.set_cons_succ, Tput_set (by simpa using h)]
section
variable {K : PySem.W.Frag} {H H' : Hp} {ow ow' : Ow} {l : Lab}
theorem tps_fz : ∀ {vs : List V} {ds : List D}, Rps K (Bs H ow) vs ds → ∃ S, Tps K H ow l vs (ds.map .fz) S ∧ ∀ b, ¬ S b
  | _, _, .nil => ⟨_, .nil, fun _ h => h⟩
  | _, _, .cons r s => by
    obtain ⟨S, h1, h2⟩ := tps_fz s
    exact ⟨_, .cons (.fz r) h1 fun _ h => h.elim, fun b h => h.elim id (h2 b)⟩
theorem tps_data : ∀ {vs : List V} {ds : List D} {S : Addr → Prop}, Tps K H ow l vs (ds.map .fz) S → Rps K (Bs H ow) vs ds ∧ ∀ b, ¬ S b
  | _, [], _, .nil => ⟨.nil, fun _ h => h⟩
  | _, d :: ds, _, .cons r s _ => by
    cases r with
    | fz r =>
      obtain ⟨h1, h2⟩ := tps_data s
      exact ⟨.cons r h1, fun b h => h.elim id (h2 b)⟩
theorem Tp.kid {v : V} {t : T} {St : Addr → Prop} {k : Kd} {ts : List T} (h : Tp K H ow l v t St) (e : t.kids = some (k, ts)) : ∃ a dx vs S, v = .ref a ∧ Cell H a dx k vs ∧ (∀ b, Foot a dx k b → ow b = l ∧ ¬ S b) ∧ Tps K H ow l vs ts S ∧ ∀ b, St b ↔ (Foot a dx k b ∨ S b) := by
  cases h with
  | fz _ => cases e
  | ow c f r =>
    cases e
    obtain ⟨S, h1, h2⟩ := tps_fz (l := l) r
    exact ⟨_, _, _, S, rfl, c, fun b fb => ⟨f b fb, h2 b⟩, h1, fun b => ⟨.inl, fun z => z.elim id fun z => (h2 b z).elim⟩⟩
  | nd c f r =>
    cases e
    exact ⟨_, _, _, _, rfl, c, f, r, fun b => .rfl⟩
theorem set_self {α : Type} : ∀ {l : List α} {j : Nat} {a : α}, l[j]? = some a → l.set j a = l
  | [], _, _, h => by simp at h
  | x :: l, 0, a, h => by simp at h; subst h; rfl
  | x :: l, j + 1, a, h => by rw [List.set_cons_succ, set_self (by simpa using h)]
theorem Tps.put : ∀ {vs : List V} {ts : List T} {S : Addr → Prop} {j : Nat} {v1 : V} {t1 : T}, Tps K H ow l vs ts S → vs[j]? = some v1 → ts[j]? = some t1 → ∃ S1, Tp K H ow l v1 t1 S1 ∧ (∀ b, S1 b → S b) ∧
    ∀ (H' : Hp) (ow' : Ow) (v2 : V) (t2 : T) (S2 : Addr → Prop), Same (Bs H ow) (Bs H' ow') → (∀ b o, S b → ¬ S1 b → H b = some o → ow b = l → H' b = some o ∧ ow' b = l) → Tp K H' ow' l v2 t2 S2 → (∀ b, S2 b → S b → S1 b) →
      ∃ S', Tps K H' ow' l (vs.set j v2) (ts.set j t2) S' ∧ ∀ b, S' b → (S b ∧ ¬ S1 b) ∨ S2 b
  | _, _, _, _, _, _, .nil, e, _ => by simp at e
  | _, _, _, 0, v1, t1, .cons (S1 := Sa) (S2 := Sb) r s d, e, e' => by
    simp at e e'
    subst e e'
    refine ⟨Sa, r, fun b h => .inl h, fun H' ow' v2 t2 S2 bs fr r2 ds => ?_⟩
    have s' := s.car (l' := l) bs fun b o hb e1 e2 => fr b o (.inr hb) (fun z => d b z hb) e1 e2
    exact ⟨_, .cons r2 s' fun b h2 hb => d b (ds b h2 (.inr hb)) hb, fun b h => h.elim .inr fun hb => .inl ⟨.inr hb, fun z => d b z hb⟩⟩
  | _, _, _, j + 1, v1, t1, .cons (S1 := Sa) (S2 := Sb) r s d, e, e' => by
    obtain ⟨S1, r1, sub, go⟩ := Tps.put (j := j) s (by simpa using e) (by simpa using e')
    refine ⟨S1, r1, fun b h => .inr (sub b h), fun H' ow' v2 t2 S2 bs fr r2 ds => ?_⟩
    obtain ⟨S', h1, h2⟩ := go H' ow' v2 t2 S2 bs (fun b o hb n e1 e2 => fr b o (.inr hb) n e1 e2) r2 fun b hb hs => ds b hb (.inr hs)
    have r' := r.car (l' := l) bs fun b o hb e1 e2 => fr b o (.inl hb) (fun z => d b hb (sub b z)) e1 e2
    refine ⟨_, .cons r' h1 fun b ha hb => ?_, fun b h => ?_⟩
    · rcases h2 b hb with z | z
      · exact d b ha z.1
      · exact d b ha (sub b (ds b z (.inl ha)))
    · rcases h with z | z
      · exact .inl ⟨.inl z, fun y => d b z (sub b y)⟩
      · rcases h2 b z with y | y
        · exact .inl ⟨.inr y.1, y.2⟩
        · exact .inr y
theorem Sub.put {v0 v : V} {t0 t : T} {pt : List Nat} (s : Sub K H ow l v0 t0 pt v t) : ∀ {S0 : Addr → Prop}, Tp K H ow l v0 t0 S0 → ∃ St, Tp K H ow l v t St ∧ (∀ b, St b → S0 b) ∧
    ∀ (H' : Hp) (ow' : Ow) (t' : T) (S2 : Addr → Prop), Same (Bs H ow) (Bs H' ow') → (∀ b o, S0 b → ¬ St b → H b = some o → ow b = l → H' b = some o ∧ ow' b = l) → Tp K H' ow' l v t' S2 → (∀ b, S2 b → S0 b → St b) →
      ∃ S', Tp K H' ow' l v0 (t0.put pt t') S' ∧ ∀ b, S' b → (S0 b ∧ ¬ St b) ∨ S2 b := by
  induction s with
  | nil =>
    intro S0 r
    refine ⟨S0, r, fun _ h => h, fun H' ow' t' S2 bs fr r2 ds => ⟨S2, ?_, fun b h => .inr h⟩⟩
    rw [put_nil]
    exact r2
  | @cons a dx k vs ts j p v1 v t1 t c f e1 e2 _ ih =>
    intro S0 r
    cases r with
    | @nd a dx' k vs' ts S c' f' r' =>
      have e := c'.inj c
      subst e
      obtain ⟨S1, r1, sub, go⟩ := r'.put e1 e2
      obtain ⟨St, rt, sub2, go2⟩ := ih r1
      refine ⟨St, rt, fun b h => .inr (sub b (sub2 b h)), fun H' ow' t' S2 bs fr r2 ds => ?_⟩
      obtain ⟨S3, r3, h3⟩ := go2 H' ow' t' S2 bs (fun b o hb n q1 q2 => fr b o (.inr (sub b hb)) n q1 q2) r2 fun b hb hs => ds b hb (.inr (sub b hs))
      obtain ⟨S4, r4, h4⟩ := go H' ow' v1 (T.put t1 p t') S3 bs (fun b o hb n q1 q2 => fr b o (.inr hb) (fun z => n (sub2 b z)) q1 q2) r3 fun b hb hs => by
        rcases h3 b hb with z | z
        · exact z.1
        · exact sub2 b (ds b z (.inr hs))
      rw [set_self e1] at r4
      have nS : ∀ b, Foot a dx' k b → ¬ St b := fun b fb z => (f' b fb).2 (sub b (sub2 b z))
      have cc : Cell H' a dx' k vs' := c'.at_same fun b o fb q => (fr b o (.inl fb) (nS b fb) q (f' b fb).1).1
      refine ⟨fun b => Foot a dx' k b ∨ S4 b, ?_, ?_⟩
      · rw [put_cons, Tput_set e2]
        refine .nd cc (fun b fb => ⟨?_, fun z => ?_⟩) r4
        · obtain ⟨o, q⟩ := c'.there fb
          exact (fr b o (.inl fb) (nS b fb) q (f' b fb).1).2
        · rcases h4 b z with y | y
          · exact (f' b fb).2 y.1
          · rcases h3 b y with w | w
            · exact (f' b fb).2 (sub b w.1)
            · exact nS b fb (ds b w (.inl fb))
      · intro b h
        rcases h with z | z
        · exact .inl ⟨.inl z, nS b z⟩
        · rcases h4 b z with y | y
          · exact .inl ⟨.inr y.1, fun w => y.2 (sub2 b w)⟩
          · rcases h3 b y with w | w
            · exact .inl ⟨.inr (sub b w.1), w.2⟩
            · exact .inr w
theorem Sub.snoc {v0 : V} {t0 : T} {pt : List Nat} {a dx : Addr} {k : Kd} {vs : List V} {ts : List T} {j : Nat} {v1 : V} {t1 : T} (s : Sub K H ow l v0 t0 pt (.ref a) (.nd k ts)) (c : Cell H a dx k vs) (f : ∀ b, Foot a dx k b → ow b = l) (e1 : vs[j]? = some v1) (e2 : ts[j]? = some t1) : Sub K H ow l v0 t0 (pt ++ [j]) v1 t1 := by
  generalize hv : V.ref a = v at s
  generalize ht : T.nd k ts = t at s
  induction s with
  | nil => subst hv ht; exact .cons c f e1 e2 .nil
  | cons c' f' g1 g2 _ ih => exact .cons c' f' g1 g2 (ih hv ht)
end
end QV

set_option Elab.async false
set_option linter.all false
set_option maxRecDepth 100000
set_option maxHeartbeats 2000000
namespace QV
open PySem L2

section
variable {K : PySem.W.Frag} {H : Hp} {ow : Ow} {σ : L2.St} {env : Env} {n : Nat} {root : Option Nat}
theorem Sub.cell {l : Lab} {v0 v : V} {t0 t : T} {pt : List Nat} {k : Kd} {ts : List T} (sb : Sub K H ow l v0 t0 pt v t) (r : Tq K H ow l v0 t0) (e : t.kids = some (k, ts)) : ∃ a dx vs S, v = .ref a ∧ Cell H a dx k vs ∧ (∀ b, Foot a dx k b → ow b = l ∧ ¬ S b) ∧ Tps K H ow l vs ts S := by
  obtain ⟨S, h⟩ := sb.tq r
  obtain ⟨a, dx, vs, S', h1, h2, h3, h4, _⟩ := h.kid e
  exact ⟨a, dx, vs, S', h1, h2, h3, h4⟩
theorem Plc.kid {v : V} {k : Kd} {ts : List T} {pt : List Nat} (s : StOk K H ow σ env) (h : Plc K H ow σ env n root v (.nd k ts) pt) : ∃ a dx vs, v = .ref a ∧ Cell H a dx k vs ∧ vs.length = ts.length ∧ ∀ j w t', vs[j]? = some w → ts[j]? = some t' → Plc K H ow σ env n root w t' (pt ++ [j]) := by
  rcases h with ⟨d, e, _⟩ | ⟨e, r⟩ | ⟨i, v0, t0, rfl, e1, e2, sb⟩
  · cases e
  · obtain ⟨a, dx, vs, S, h1, h2, h3, h4⟩ := Sub.cell (.nil) r (k := k) (ts := ts) rfl
    exact ⟨a, dx, vs, h1, h2, h4.len, fun j w t' g1 g2 => .inr (.inl ⟨e, let ⟨S', q⟩ := h4.get g1 g2; ⟨S', q⟩⟩)⟩
  · obtain ⟨w0, q1, r0⟩ := s.at_ i t0 e2
    rw [e1] at q1
    cases q1
    obtain ⟨a, dx, vs, S, h1, h2, h3, h4⟩ := sb.cell r0 (k := k) (ts := ts) rfl
    subst h1
    exact ⟨a, dx, vs, rfl, h2, h4.len, fun j w t' g1 g2 => .inr (.inr ⟨i, v0, t0, rfl, e1, e2, sb.snoc h2 (fun b fb => (h3 b fb).1) g1 g2⟩)⟩
end
section
variable {X : Cx} {W : WX} {M Ma Mb IO : List Nat} {e a b : Expr} {pa pb : SemP} {q : SemE} {ra rb root : Option Nat} {pos : Pos}
end
section
variable {K : PySem.W.Frag} {H : Hp} {ow : Ow} {l : Lab}
theorem Tps.snoc : ∀ {vs : List V} {ts : List T} {S S1 : Addr → Prop} {w : V} {u : T}, Tps K H ow l vs ts S → Tp K H ow l w u S1 → (∀ b, S1 b → ¬ S b) → ∃ S', Tps K H ow l (vs ++ [w]) (ts ++ [u]) S' ∧ ∀ b, S' b → S b ∨ S1 b
  | _, _, _, _, _, _, .nil, r, _ => ⟨_, .cons r .nil (fun _ _ h => h), fun b h => h.elim .inr (fun h => .inl h)⟩
  | _, _, _, _, _, _, .cons (S1 := Sa) (S2 := Sb) r s d, r1, h => by
    obtain ⟨S', h1, h2⟩ := Tps.snoc s r1 fun b hb z => h b hb (.inr z)
    refine ⟨_, .cons r h1 fun b ha hb => ?_, fun b hb => ?_⟩
    · rcases h2 b hb with z | z
      · exact d b ha z
      · exact h b z (.inl ha)
    · rcases hb with z | z
      · exact .inl (.inl z)
      · rcases h2 b z with y | y
        · exact .inl (.inr y)
        · exact .inr y
theorem Tp.flat {a dx : Addr} {k : Kd} {vs : List V} {ds : List D} {S : Addr → Prop} (c : Cell H a dx k vs) (f : ∀ b, Foot a dx k b → ow b = l) (r : Tps K H ow l vs (ds.map .fz) S) : Tp K H ow l (.ref a) (.ow k ds) (Foot a dx k) := .ow c f (tps_data r).1
end
section
variable {X : Cx} {W : WX} {M Ma Mb IO : List Nat} {e a b o ix : Expr} {pa pb : SemP} {q qi : SemE} {ra rb root : Option Nat} {pos : Pos}
theorem Plc.own {K : PySem.W.Frag} {H : Hp} {ow : Ow} {σ : L2.St} {env : Env} {n i : Nat} {v : V} {t : T} {pt : List Nat} {k : Kd} {ts : List T} (h : Plc K H ow σ env n (some i) v t pt) (e : t.kids = some (k, ts)) : ∃ v0 t0, σ[i]? = some (some v0) ∧ env[i]? = some (some t0) ∧ Sub K H ow (.sl i) v0 t0 pt v t := by
  rcases h with ⟨d, rfl, _⟩ | ⟨z, _⟩ | ⟨i', v0, t0, z, e1, e2, sb⟩
  · cases e
  · cases z
  · cases z
    exact ⟨v0, t0, e1, e2, sb⟩
end
end QV

set_option Elab.async false
set_option linter.all false
set_option maxRecDepth 100000
set_option maxHeartbeats 2000000
namespace QV
open PySem L2

abbrev SemAT := Env → (List T → Env → Prop) → XQ → Prop
def tAT (K : PySem.W.Frag) (W : WX) (M : List Nat) (m : Nat) (q : SemAT) : TA := fun σ H Qv => ∃ (n : Nat) (ow : Ow) (env : Env) (Q : List T → Env → Prop) (E : XQ), StOk K H ow σ env ∧ q env Q E ∧
  (∀ (vs : List V) (ts : List T) (H' : Hp) (ow' : Ow) (env' : Env), Stp M n H ow H' ow' → StOk K H' ow' σ env' → Out M env env' → vs.length = m → ts.length = m → (∀ (j : Nat) (v : V) (t : T), vs[j]? = some v → ts[j]? = some t → Tq K H' ow' (.tm (n + j)) v t) → Q ts env' → Qv vs H') ∧ Xk K W M σ H n ow env E
structure QAT (X : Cx) (W : WX) (M : List Nat) (k : Nat) (es : List Expr) (q : SemAT) : Prop where
  run : PA X es (tAT X.K W M k q)
def atNil : SemAT := fun env Q _ => Q [] env
def atCons (q : SemE) (qs : SemAT) : SemAT := fun env Q E => q env (fun t env1 => qs env1 (fun ts env2 => Q (t :: ts) env2) E) E
def Ow.one (ow : Ow) (n : Nat) : Ow := fun b => match ow b with
  | .tm k => if n ≤ k then .tm n else .tm k
  | l => l
section
variable {K : PySem.W.Frag} {H : Hp} {ow : Ow} {n : Nat}
theorem one_tm {k : Nat} {b : Addr} (h : ow b = .tm k) (hk : n ≤ k) : Ow.one ow n b = .tm n := by unfold Ow.one; rw [h]; exact if_pos hk
theorem one_ne {b : Addr} (h : ∀ k, ow b = .tm k → k < n) : Ow.one ow n b = ow b := by
  unfold Ow.one
  split
  · rename_i k e
    rw [if_neg (by have := h k e; omega), e]
  · rfl
theorem bs_one : Same (Bs H ow) (Bs H (Ow.one ow n)) := bs_lab fun a e1 => by rw [one_ne (fun k z => by rw [e1] at z; cases z)]; exact e1
theorem stp_one {M : List Nat} : Stp M n H ow H (Ow.one ow n) := ⟨fun a o e q => ⟨e, one_ne fun k z => by rw [z] at q; exact q⟩, fun _ _ e => e⟩
theorem tps_one : ∀ {vs : List V} {ts : List T} {m : Nat}, n ≤ m → vs.length = ts.length → (∀ (j : Nat) (v : V) (t : T), vs[j]? = some v → ts[j]? = some t → Tq K H ow (.tm (m + j)) v t) → ∃ S, Tps K H (Ow.one ow n) (.tm n) vs ts S ∧ ∀ b, S b → ∃ k, m ≤ k ∧ ow b = .tm k
  | [], [], m, _, _, _ => ⟨_, .nil, fun _ h => h.elim⟩
  | v :: vs, t :: ts, m, hm, hl, h => by
    obtain ⟨S, r⟩ := h 0 v t rfl rfl
    obtain ⟨S2, r2, h2⟩ := tps_one (vs := vs) (ts := ts) (m := m + 1) (by omega) (by simpa using hl) fun j v' t' e1 e2 => by
      have := h (j + 1) v' t' (by simpa using e1) (by simpa using e2)
      rwa [show m + 1 + j = m + (j + 1) by omega]
    have r' := r.car (H' := H) (ow' := Ow.one ow n) (l' := .tm n) bs_one fun b o _ e1 e2 => ⟨e1, one_tm e2 (by omega)⟩
    refine ⟨_, .cons r' r2 fun b hb hb2 => ?_, fun b hb => ?_⟩
    · obtain ⟨k, hk, e⟩ := h2 b hb2
      have := (r.there b hb).1
      rw [e] at this
      have := Lab.tm.inj this
      omega
    · rcases hb with z | z
      · exact ⟨m, Nat.le_refl _, by have := (r.there b z).1; simpa using this⟩
      · obtain ⟨k, hk, e⟩ := h2 b z
        exact ⟨k, by omega, e⟩
theorem tps_there {l : Lab} {vs : List V} {ts : List T} {S : Addr → Prop} (r : Tps K H ow l vs ts S) (b : Addr) (h : S b) : ∃ o, H b = some o := (r.there b h).2
theorem nd_new {k : Kd} {l : Lab} {p : Addr} {vs : List V} {ts : List T} {o : HO} (hp : H p = none) (ho : HOof k p vs = o) (hz : vs.length ≤ sizeLine) (hf : k = .lst ∨ k = .tup) {S : Addr → Prop} (r : Tps K H ow l vs ts S) : Tq K (upd H p o) (Ow.put ow p l) l (.ref p) (.nd k ts) := by
  subst ho
  have r' := r.car (H' := upd H p (HOof k p vs)) (ow' := Ow.put ow p l) (l' := l) (Stp.bs (M := []) (n := 0) (Stp.new hp)) fun b o hb e1 e2 => by
    have ne : b ≠ p := ne_of_none e1 hp
    exact ⟨by rw [upd_ne ne]; exact e1, by rw [put_ne ne]; exact e2⟩
  have fp : ∀ b, Foot p p k b → b = p := fun b fb => by rcases hf with rfl | rfl <;> exact fb
  refine ⟨_, .nd (dx := p) ⟨upd_same, hz, by rcases hf with rfl | rfl <;> trivial⟩ (fun b fb => ?_) r'⟩
  have e := fp b fb
  subst e
  refine ⟨put_same, fun z => ?_⟩
  obtain ⟨o, e⟩ := tps_there r b z
  rw [hp] at e
  cases e
end
def sNd (k : Kd) (qs : SemAT) : SemE := fun env Q E => qs env (fun ts env1 => Q (.nd k ts) env1) E
section
variable {X : Cx} {W : WX} {M Ma Mb : List Nat} {k : Nat} {e : Expr} {es : List Expr} {q : SemE} {qs : SemAT} {pos : Pos}
theorem at_nil : QAT X W [] 0 [] atNil := ⟨PA_imp pa_nil fun σ H Qv ⟨n, ow, env, Q, E, s, hq, k, x⟩ => k [] [] H ow env Stp.refl s Out.refl rfl rfl (fun j v d h => by simp at h) hq⟩
theorem at_cons (h1 : QE X W Ma e q) (h2 : QAT X W Mb k es qs) (hs : starEach (e :: es) X.env = (false, eval e X.env) :: starEach es X.env := by rfl) : QAT X W (Ma ++ Mb) (k + 1) (e :: es) (atCons q qs) :=
  ⟨PA_imp (pa_cons h1.run h2.run hs) fun σ H Qv ⟨n, ow, env, Q, E, s, hq, kk, x⟩ => ⟨n, ow, env, _, E, s, hq, fun v t H1 ow1 env1 y1 s1 o1 r1 z =>
    ⟨n + 1, ow1, env1, _, E, s1, z, fun vs ts H2 ow2 env2 y2 s2 o2 l l' hv z2 => by
      refine kk _ _ H2 ow2 env2 (y1.trans y2 subl subr (Nat.le_refl _) (Nat.le_succ _)) s2 (o1.trans o2 subl subr) (by rw [List.length_cons, l]) (by rw [List.length_cons, l']) (fun j v' t' ev et => ?_) z2
      cases j with
      | zero =>
        simp at ev et
        subst ev et
        exact (y2.car (l := .tm n) (Nat.lt_succ_self n)).tq r1
      | succ j =>
        have := hv j v' t' (by simpa using ev) (by simpa using et)
        rwa [show n + 1 + j = n + (j + 1) by omega] at this, x.step y1 o1 subl subr (Nat.le_refl _) (Nat.le_succ _)⟩, fun r d H' ow' env' y s' o => x r d H' ow' env' (y.mono subl (Nat.le_refl _)) s' (o.mono subl)⟩⟩
theorem nd_run {kd : Kd} (hf : kd = .lst ∨ kd = .tup) (hz : k ≤ sizeLine) (ho : ∀ (p : Addr) (vs : List V), HOof kd p vs = HOof kd 0 vs) {σ : L2.St} {H : Hp} {Qv : VK} (h : tQ X.K W M (sNd kd qs) σ H Qv) :
    tAT X.K W M k qs σ H fun vs H1 => vs.length ≤ sizeLine ∧ ∀ p, H1 p = none → Qv (.ref p) (upd H1 p (HOof kd 0 vs)) := by
  obtain ⟨n, ow, env, Q, E, s, hq, kk, x⟩ := h
  refine ⟨n, ow, env, _, E, s, hq, fun vs ts H1 ow1 env1 y1 s1 o1 l l' hv z => ⟨by omega, fun p hp => ?_⟩, x⟩
  obtain ⟨S, r, _⟩ := tps_one (n := n) (Nat.le_refl n) (l.trans l'.symm) hv
  have y2 : Stp M n H1 ow1 H1 (Ow.one ow1 n) := stp_one
  have s2 : StOk X.K H1 (Ow.one ow1 n) σ env1 := s1.stp0 (n := n) stp_one
  have y3 : Stp M n H1 (Ow.one ow1 n) (upd H1 p (HOof kd 0 vs)) (Ow.put (Ow.one ow1 n) p (.tm n)) := Stp.new hp
  exact kk _ _ _ _ env1 ((y1.trans y2 (fun _ h => h) (fun _ h => h) (Nat.le_refl _) (Nat.le_refl _)).trans y3 (fun _ h => h) (fun _ h => h) (Nat.le_refl _) (Nat.le_refl _)) (s2.stp0 (n := 0) (Stp.new hp)) o1
    (nd_new hp (ho p vs) (by omega) hf r) z
theorem q_tupT {x1} (h : QAT X W M k es qs) (hz : k ≤ sizeLine := by decide) : QE X W M (.Tuple es x1 pos) (sNd .tup qs) := ⟨PE_imp (pe_tup h.run) fun _ _ _ z => nd_run (.inr rfl) hz (fun _ _ => rfl) z⟩
end
end QV

set_option Elab.async false
set_option linter.all false
set_option maxRecDepth 100000
set_option maxHeartbeats 2000000
namespace QV
open PySem L2
def tAX (K : PySem.W.Frag) (W : WX) (M : List Nat) (ks : List (Option Nat)) (q : SemAT) : TA := fun σ H Qv => ∃ (n : Nat) (ow : Ow) (env : Env) (Q : List T → Env → Prop) (E : XQ), StOk K H ow σ env ∧ q env Q E ∧
  (∀ (vs : List V) (ts : List T) (H' : Hp) (ow' : Ow) (env' : Env), Stp M n H ow H' ow' → StOk K H' ow' σ env' → Out M env env' → vs.length = ks.length → ts.length = ks.length →
    (∀ (j : Nat) (v : V) (t : T), vs[j]? = some v → ts[j]? = some t → (ks[j]? = some none → Tq K H' ow' (.tm (n + j)) v t) ∧ ∀ i, ks[j]? = some (some i) → σ[i]? = some (some v)) → Q ts env' → Qv vs H') ∧ Xk K W M σ H n ow env E
structure QAX (X : Cx) (W : WX) (M : List Nat) (ks : List (Option Nat)) (es : List Expr) (q : SemAT) : Prop where
  run : PA X es (tAX X.K W M ks q)
section
variable {X : Cx} {W : WX} {M Ma Mb : List Nat} {e : Expr} {es : List Expr} {q : SemE} {qs : SemAT} {ks : List (Option Nat)} {pos : Pos}
end
section
variable {X : Cx} {W : WX} {M : List Nat} {k : Nat} {f : Addr} {fd : FuncData} {ps : List Str} {io cs : List Nat} {spec : SemF} {ks : List (Option Nat)} {e : Expr} {es : List Expr} {qs : SemAT} {x : Str} {p pos : Pos}
end
end QV

set_option Elab.async false
set_option linter.all false
set_option maxRecDepth 100000
set_option maxHeartbeats 2000000
namespace QV
open PySem PySem.Spec PyProof.Rows L2
def flD0 : D → Bool
  | .non => true
  | .bl _ => true
  | .int _ => true
  | .str _ => true
  | _ => false
mutual
def ownT : T → Bool
  | .fz d => flD0 d
  | .ow _ ds => ds.all flD0
  | .nd _ ts => ownTs ts
def ownTs : List T → Bool
  | [] => true
  | t :: ts => ownT t && ownTs ts
end
section
variable {K : PySem.W.Frag} {B B' : Hp}
theorem rp_flat {v : V} {d : D} (r : Rp K B v d) (h : flD0 d = true) : Rp K B' v d := by
  cases r with
  | non => exact .non
  | bl b => exact .bl b
  | int i => exact .int i
  | str x => exact .str x
  | _ => cases h
theorem rps_flat : ∀ {vs : List V} {ds : List D}, Rps K B vs ds → ds.all flD0 = true → Rps K B' vs ds
  | _, _, .nil, _ => .nil
  | _, _, .cons r s, h => by
    rw [List.all_cons, Bool.and_eq_true] at h
    exact .cons (rp_flat r h.1) (rps_flat s h.2)
mutual
theorem Tp.free {H H' : Hp} {ow ow' : Ow} {l l' : Lab} : ∀ {v : V} {t : T} {S : Addr → Prop}, ownT t = true → (∀ a o, S a → H a = some o → ow a = l → H' a = some o ∧ ow' a = l') → Tp K H ow l v t S → Tp K H' ow' l' v t S
  | _, _, _, h, _, .fz r => .fz (rp_flat r (by simpa [ownT] using h))
  | _, _, _, h, k, .ow c f r => .ow (c.at_same fun b o fb q => (k b o fb q (f b fb)).1) (fun b fb => let ⟨o, q⟩ := c.there fb; (k b o fb q (f b fb)).2) (rps_flat r (by simpa [ownT] using h))
  | _, _, _, h, k, .nd c f r => .nd (c.at_same fun b o fb q => (k b o (.inl fb) q (f b fb).1).1)
      (fun b fb => let ⟨o, q⟩ := c.there fb; ⟨(k b o (.inl fb) q (f b fb).1).2, (f b fb).2⟩) (Tps.free (by simpa [ownT] using h) (fun b o s => k b o (.inr s)) r)
theorem Tps.free {H H' : Hp} {ow ow' : Ow} {l l' : Lab} : ∀ {v : List V} {t : List T} {S : Addr → Prop}, ownTs t = true → (∀ a o, S a → H a = some o → ow a = l → H' a = some o ∧ ow' a = l') → Tps K H ow l v t S → Tps K H' ow' l' v t S
  | _, _, _, _, _, .nil => .nil
  | _, t :: ts, _, h, k, .cons r s d => by
    have h' : ownT t = true ∧ ownTs ts = true := by simpa [ownTs] using h
    exact .cons (Tp.free h'.1 (fun b o q => k b o (.inl q)) r) (Tps.free h'.2 (fun b o q => k b o (.inr q)) s) d
end
end
def asmB : List (Option Nat) → List D → Env → Option (List T)
  | [], [], _ => some []
  | none :: ks, d :: ds, env => match asmB ks ds env with
    | some ts => some (.fz d :: ts)
    | none => none
  | some i :: ks, _ :: ds, env => match env[i]? with
    | some (some t) => match asmB ks ds env with
      | some ts => some (.fz t.d :: ts)
      | none => none
    | _ => none
  | _, _, _ => none
theorem asmB_get : ∀ {ks : List (Option Nat)} {ds : List D} {env : Env} {ts : List T}, asmB ks ds env = some ts → ts.length = ks.length ∧ ∀ (j : Nat) (t : T), ts[j]? = some t → (∃ d, ks[j]? = some none ∧ ds[j]? = some d ∧ t = .fz d) ∨ ∃ i u, ks[j]? = some (some i) ∧ env[i]? = some (some u) ∧ t = .fz u.d
  | [], [], env, ts, h => by cases h; exact ⟨rfl, fun j t e => by simp at e⟩
  | none :: ks, d :: ds, env, ts, h => by
    simp only [asmB] at h
    split at h
    · rename_i us e
      cases h
      obtain ⟨h1, h2⟩ := asmB_get e
      refine ⟨by rw [List.length_cons, List.length_cons, h1], fun j t et => ?_⟩
      cases j with
      | zero => simp at et; subst et; exact .inl ⟨d, rfl, rfl, rfl⟩
      | succ j => simpa using h2 j t (by simpa using et)
    · cases h
  | some i :: ks, d :: ds, env, ts, h => by
    simp only [asmB] at h
    split at h
    · rename_i u eu
      split at h
      · rename_i us e
        cases h
        obtain ⟨h1, h2⟩ := asmB_get e
        refine ⟨by rw [List.length_cons, List.length_cons, h1], fun j t et => ?_⟩
        cases j with
        | zero => simp at et; subst et; exact .inr ⟨i, u, rfl, eu, rfl⟩
        | succ j => simpa using h2 j t (by simpa using et)
      · cases h
    · cases h
  | [], _ :: _, _, _, h => by simp [asmB] at h
  | none :: _, [], _, _, h => by simp [asmB] at h
  | some _ :: _, [], _, _, h => by simp [asmB] at h
def sCallB (spec : SemF) (ks : List (Option Nat)) (qs : SemD) : SemE := fun env Q E => qs env (fun ds env1 => match asmB ks ds env1 with
  | some args => spec args (fun t outs => ownT t = true ∧ Q t env1) (fun _ _ => False)
  | none => False) E
def labInB (ks : List (Option Nat)) : Lab → Lab
  | .base => .base
  | .sl i => if some i ∈ ks then .base else .fr
  | _ => .fr
def labBackB (n : Nat) (old : Lab) (there : Bool) : Lab → Lab
  | .fr => old
  | .base => if there then old else .base
  | .sl _ => .tm n
  | .tm _ => .tm n
section
variable {X : Cx} {W : WX} {M : List Nat} {k : Nat} {f : Addr} {fd : FuncData} {ps : List Str} {io cs : List Nat} {spec : SemF} {ks : List (Option Nat)} {e : Expr} {es : List Expr} {qs : SemD} {x : Str} {p pos : Pos}
theorem callB_run {K : PySem.W.Frag} {n0 : Nat} (hn : ks.length = n0) {σ : L2.St} {H1 : Hp} {Qv : VK} {m : Nat} {ow1 : Ow} {env1 : Env} {Q : T → Env → Prop} {vs : List V} {ds : List D} {args : List T} (s1 : StOk K H1 ow1 σ env1) (l1 : vs.length = ks.length)
    (hv : ∀ (j : Nat) (v : V) (d : D), vs[j]? = some v → ds[j]? = some d → (ks[j]? = some none → Rp K (Bs H1 ow1) v d) ∧ ∀ i, ks[j]? = some (some i) → σ[i]? = some (some v))
    (l2 : ds.length = ks.length) (ha : asmB ks ds env1 = some args) (hs : spec args (fun t outs => ownT t = true ∧ Q t env1) (fun _ _ => False))
    (kk : ∀ v t H' ow', Stp [] m H1 ow1 H' ow' → StOk K H' ow' σ env1 → Tq K H' ow' (.tm m) v t → Q t env1 → Qv v H') : spQ K n0 [] spec vs H1 Qv (fun cls d H' => W cls d σ H') := by
  obtain ⟨a1, a2⟩ := asmB_get ha
  have bsIn : Same (Bs H1 ow1) (Bs H1 fun a => labInB ks (ow1 a)) := bs_lab fun a e1 => by
    show labInB ks (ow1 a) = .base
    rw [e1]; rfl
  refine ⟨by omega, fun a => labInB ks (ow1 a), args, fun t _ => ownT t = true ∧ Q t env1, fun _ _ => False, by omega, fun j t et => ?_, hs, fun v t H2 owc outs fs r lo ho ⟨ot, z⟩ => ?_, fun r d H2 owc outs fs rz lo ho z => z.elim⟩
  · have hj : j < vs.length := by have := (List.getElem?_eq_some_iff.mp et).1; omega
    have ev : vs[j]? = some vs[j] := by simp [hj]
    refine ⟨vs[j], ev, ?_⟩
    have hjd : j < ds.length := by omega
    have ed : ds[j]? = some ds[j] := by simp [hjd]
    rcases a2 j t et with ⟨d, ek, ed', rfl⟩ | ⟨i, u, ek, ee, rfl⟩
    · exact Tq.fz_.mpr (((hv j _ d ev ed').1 ek).mono bsIn)
    · have e1 := (hv j _ _ ev ed).2 i ek
      obtain ⟨w, e2, S, r⟩ := s1.at_ i u ee
      rw [e1] at e2
      cases e2
      refine Tq.fz_.mpr (r.all bsIn fun a o _ h eo => ?_)
      have hm : some i ∈ ks := List.mem_of_getElem? ek
      have : labInB ks (ow1 a) = .base := by rw [eo]; exact if_pos hm
      unfold Bs
      rw [if_pos this]
      exact h
  · have old : ∀ a o, H1 a = some o → (labInB ks (ow1 a) = .fr ∨ labInB ks (ow1 a) = .base) → H2 a = some o ∧ labBackB m (ow1 a) (H1 a).isSome (owc a) = ow1 a := fun a o e q => by
      obtain ⟨e1, e2⟩ := fs a o e q
      refine ⟨e1, ?_⟩
      rw [e2]
      rcases q with q | q
      · show labBackB m (ow1 a) _ (labInB ks (ow1 a)) = _
        rw [q]; rfl
      · show labBackB m (ow1 a) _ (labInB ks (ow1 a)) = _
        rw [q, e]; rfl
    have all : ∀ l, Prot [] m l → labInB ks l = .fr ∨ labInB ks l = .base := fun l _ => by
      cases l with
      | fr => exact .inl rfl
      | base => exact .inr rfl
      | tm k => exact .inl rfl
      | sl i =>
        by_cases h : some i ∈ ks
        · exact .inr (if_pos h)
        · exact .inl (if_neg h)
    have stp : Stp [] m H1 ow1 H2 (fun a => labBackB m (ow1 a) (H1 a).isSome (owc a)) := ⟨fun a o e q => old a o e (all _ q), fs.tp⟩
    obtain ⟨S, r⟩ := r
    exact kk v t H2 _ stp (s1.stp0 stp) ⟨S, Tp.free ot (fun a o _ e eo => ⟨e, by
      show labBackB m (ow1 a) _ (owc a) = .tm m
      rw [eo]; rfl⟩) r⟩ z
theorem q_callB (F : QFn X.prog X.w X.K X.mg X.base k f fd ps [] spec) (tk : L2.Takes X W) (hr : Room k X.A) (hG : X.A.guards = some []) (hg : Gl X x) (hm : X.mg x = some (.ref f)) (hk : PySem.W.keepIn X.K (.ref f) = true) (hb : Binds X.K fd ps [])
    (ha : QA X W M ks (e :: es) qs) (hn : ks.length = ps.length := by rfl) (hdb : (x == ("__debug__" : Str)) = false := by decide) (he : starEach (e :: es) X.env = (false, eval e X.env) :: starEach es X.env := by rfl)
    (hpl : (backTo pos (starEach es X.env)).any (·.1) = false := by rfl) : QE X W M (.Call (.Name x p) (e :: es) [] pos) (sCallB spec ks qs) :=
  ⟨PE_imp (pe_callG F hr hG hg hm hk hb tk ha.run hdb he hpl) fun σ H Qv ⟨n, ow, env, Q, E, st, hq, kk, xx⟩ => ⟨n, ow, env, _, E, st, hq, fun vs ds H1 ow1 env1 y1 s1 o1 l1 l2 hv z => by
    split at z
    · rename_i args ea
      exact callB_run hn s1 l1 hv l2 ea z fun v t H2 ow2 y2 s2 r2 z2 => kk v t H2 ow2 env1 (y1.trans y2 (fun _ h => h) nilsub (Nat.le_refl _) (Nat.le_refl _)) s2 o1 r2 z2
    · exact z.elim, xx⟩⟩
theorem q_callCB (C : Callee X.prog X.w X.K X.mg X.base k x ps [] spec) (tk : L2.Takes X W) (hr : Room k X.A) (hG : X.A.guards = some []) (hg : Gl X x)
    (ha : QA X W M ks (e :: es) qs) (hn : ks.length = ps.length := by rfl) (hdb : (x == ("__debug__" : Str)) = false := by decide) (he : starEach (e :: es) X.env = (false, eval e X.env) :: starEach es X.env := by rfl)
    (hpl : (backTo pos (starEach es X.env)).any (·.1) = false := by rfl) : QE X W M (.Call (.Name x p) (e :: es) [] pos) (sCallB spec ks qs) :=
  let ⟨_, _, F, hm, hk, hb⟩ := C
  q_callB F tk hr hG hg hm hk hb ha hn hdb he hpl
end
end QV

set_option Elab.async false
set_option linter.all false
set_option maxRecDepth 100000
set_option maxHeartbeats 2000000
namespace QV
open PySem L2
def look {κ α : Type} [DecidableEq κ] : List κ → List α → κ → Option α
  | k' :: ks, a :: as, k => if k' = k then some a else look ks as k
  | _, _, _ => none
theorem look_zip {κ : Type} [DecidableEq κ] : ∀ (ks : List κ) (vs : List V) (k : κ), valV (ks.zip vs) k = look ks vs k
  | [], vs, k => by simp [look, valV]
  | k' :: ks, [], k => by simp [look, valV]
  | k' :: ks, v :: vs, k => by
    rw [List.zip_cons_cons]
    by_cases e : k' = k
    · rw [valV_pos e, look, if_pos e]
    · rw [valV_neg e, look, if_neg e, look_zip ks vs k]
section
variable {K : PySem.W.Frag} {B : Hp}
theorem Rps.look {κ : Type} [DecidableEq κ] : ∀ {ks : List κ} {vs : List V} {ds : List D} {k : κ}, Rps K B vs ds → (QV.look ks ds k = none ∧ QV.look ks vs k = none) ∨ ∃ d v, QV.look ks ds k = some d ∧ QV.look ks vs k = some v ∧ Rp K B v d
  | [], _, _, _, .nil => .inl ⟨rfl, rfl⟩
  | [], _, _, _, .cons _ _ => .inl ⟨rfl, rfl⟩
  | k' :: ks, _, _, k, .nil => .inl ⟨rfl, rfl⟩
  | k' :: ks, _, _, k, .cons (d := d) (v := v) r s => by
    by_cases e : k' = k
    · exact .inr ⟨d, v, by rw [QV.look, if_pos e], by rw [QV.look, if_pos e], r⟩
    · rcases Rps.look (ks := ks) (k := k) s with ⟨h1, h2⟩ | ⟨d, v, h1, h2, h3⟩
      · exact .inl ⟨by rw [QV.look, if_neg e, h1], by rw [QV.look, if_neg e, h2]⟩
      · exact .inr ⟨d, v, by rw [QV.look, if_neg e, h1], by rw [QV.look, if_neg e, h2], h3⟩
end
def keyD : D → Option Key
  | .int i => some (Sum.inl i)
  | .str x => some (Sum.inr x)
  | _ => none
def keysD : List D → Option (List Key)
  | [] => some []
  | d :: ds => match keyD d, keysD ds with
    | some k, some ks => some (k :: ks)
    | _, _ => none
def shK : T → Option (List Key × List D)
  | .fz (.nd (.dK ks) ds) => some (ks, ds)
  | .ow (.dK ks) ds => some (ks, ds)
  | _ => none
def shKT : T → Option (List (List Key) × List D)
  | .fz (.nd (.dT ks) ds) => some (ks, ds)
  | .ow (.dT ks) ds => some (ks, ds)
  | _ => none
section
variable {K : PySem.W.Frag} {H : Hp} {ow : Ow}
theorem rp_key {B : Hp} {y : V} {d : D} {k : Key} (r : Rp K B y d) (h : keyD d = some k) : y = kV k := by
  cases r <;> cases h <;> rfl
theorem rps_keys {B : Hp} : ∀ {vs : List V} {ds : List D} {ks : List Key}, Rps K B vs ds → keysD ds = some ks → vs = ks.map kV
  | _, _, ks, .nil, h => by cases h; rfl
  | _, _, ks, .cons (d := d) (ds := ds) r s, h => by
    simp only [keysD] at h
    split at h
    · rename_i k ks' e1 e2
      cases h
      rw [rp_key r e1, rps_keys s e2]
      rfl
    · cases h
theorem Ro.key {y : V} {d : D} {k : Key} (r : Ro K H ow y (.fz d)) (h : keyD d = some k) : y = kV k := rp_key r.rd h
theorem Ro.keyT {y : V} {t : T} {ds : List D} {ks : List Key} (r : Ro K H ow y t) (e : t = .fz (.nd .tup ds)) (h : keysD ds = some ks) : ∃ b, y = .ref b ∧ H b = some (.tup (ks.map kV)) := by
  subst e
  obtain ⟨l, r⟩ := r
  cases Tq.fz_.mp r with
  | tup c z r => exact ⟨_, rfl, by rw [← rps_keys r h]; exact bs_same H ow _ _ c⟩
  | cell hn _ _ => exact absurd rfl hn
theorem Ro.dK {x : V} {t : T} {ks : List Key} {ds : List D} (h : Ro K H ow x t) (e : shK t = some (ks, ds)) : ∃ a vs, x = .ref a ∧ H a = some (.dK (ks.zip vs)) ∧ ks.length = vs.length ∧ vs.length ≤ sizeLine ∧ Rps K (Bs H ow) vs ds := by
  unfold shK at e
  split at e
  · cases e
    obtain ⟨l, h⟩ := h
    cases Tq.fz_.mp h with
    | cell _ c r => exact ⟨_, _, rfl, bs_same H ow _ _ c.at_, c.fit, c.sz, r⟩
  · cases e
    obtain ⟨l, S, h⟩ := h
    cases h with
    | ow c _ r => exact ⟨_, _, rfl, c.at_, c.fit, c.sz, r⟩
  · cases e
theorem Ro.dT {x : V} {t : T} {ks : List (List Key)} {ds : List D} (h : Ro K H ow x t) (e : shKT t = some (ks, ds)) : ∃ a vs, x = .ref a ∧ H a = some (.dT (ks.zip vs)) ∧ ks.length = vs.length ∧ vs.length ≤ sizeLine ∧ Rps K (Bs H ow) vs ds := by
  unfold shKT at e
  split at e
  · cases e
    obtain ⟨l, h⟩ := h
    cases Tq.fz_.mp h with
    | cell _ c r => exact ⟨_, _, rfl, bs_same H ow _ _ c.at_, c.fit, c.sz, r⟩
  · cases e
    obtain ⟨l, S, h⟩ := h
    cases h with
    | ow c _ r => exact ⟨_, _, rfl, c.at_, c.fit, c.sz, r⟩
  · cases e
def dGet (t u : T) : Option (Option D) := match t, u with
  | .fz (.nd (.dK ks) ds), .fz d => (keyD d).map fun k => look ks ds k
  | .ow (.dK ks) ds, .fz d => (keyD d).map fun k => look ks ds k
  | .fz (.nd (.dT ks) ds), .fz (.nd .tup es) => (keysD es).map fun k => look ks ds k
  | .ow (.dT ks) ds, .fz (.nd .tup es) => (keysD es).map fun k => look ks ds k
  | _, _ => none
theorem dget_of {x y : V} {t u : T} {o : Option D} (rx : Ro K H ow x t) (ry : Ro K H ow y u) (h : dGet t u = some o) : ∃ a r, x = .ref a ∧ DGet H a y r ∧ IsD H a ∧ ((o = none ∧ r = none) ∨ ∃ d v, o = some d ∧ r = some v ∧ Rp K (Bs H ow) v d) := by
  have kk : ∀ {ks : List Key} {ds : List D} {d : D}, shK t = some (ks, ds) → u = .fz d → ((keyD d).map fun k => look ks ds k) = some o → ∃ a r, x = .ref a ∧ DGet H a y r ∧ IsD H a ∧ ((o = none ∧ r = none) ∨ ∃ d v, o = some d ∧ r = some v ∧ Rp K (Bs H ow) v d) := fun {ks ds d} e1 e2 e3 => by
    subst e2
    obtain ⟨a, vs, rfl, c, hl, hz, r⟩ := rx.dK e1
    cases ek : keyD d with
    | none => rw [ek] at e3; cases e3
    | some k =>
      rw [ek] at e3
      cases e3
      have ey := ry.key ek
      subst ey
      refine ⟨a, _, rfl, DGet.k c, .inl ⟨_, .inl c⟩, ?_⟩
      rw [look_zip]
      exact r.look
  have kt : ∀ {ks : List (List Key)} {ds es : List D}, shKT t = some (ks, ds) → u = .fz (.nd .tup es) → ((keysD es).map fun k => look ks ds k) = some o → ∃ a r, x = .ref a ∧ DGet H a y r ∧ IsD H a ∧ ((o = none ∧ r = none) ∨ ∃ d v, o = some d ∧ r = some v ∧ Rp K (Bs H ow) v d) := fun {ks ds es} e1 e2 e3 => by
    obtain ⟨a, vs, rfl, c, hl, hz, r⟩ := rx.dT e1
    cases ek : keysD es with
    | none => rw [ek] at e3; cases e3
    | some k =>
      rw [ek] at e3
      cases e3
      obtain ⟨b, rfl, hb⟩ := ry.keyT e2 ek
      refine ⟨a, _, rfl, DGet.t c hb, .inr ⟨_, .inl c⟩, ?_⟩
      rw [look_zip]
      exact r.look
  unfold dGet at h
  split at h
  · exact kk rfl rfl h
  · exact kk rfl rfl h
  · exact kt rfl rfl h
  · exact kt rfl rfl h
  · cases h
end
section
variable {X : Cx} {W : WX} {M Ma Mb : List Nat} {a b : Expr} {pa pb : SemP} {ra rb : Option Nat} {pos : Pos}
end
end QV

set_option Elab.async false
set_option linter.all false
set_option maxRecDepth 100000
set_option maxHeartbeats 2000000
namespace QV
open PySem PySem.Spec PyProof.Rows L2
inductive LcT (g : SemG) (t : SemT) (q : SemE) (vs : List Nat) (Q : T → Env → Prop) (ds : List D) (env1 : Env) : Prop
  | mk (h : ∃ I : Nat → List T → Env → Prop, I 0 [] env1 ∧
  (∀ j d acc env', ds[j]? = some d → I j acc env' → g d (wipeE env' vs) fun env2 => t env2 (fun b env3 => (b = true → q env3 (fun w env4 => I (j + 1) (acc ++ [w]) (rstE env' vs env4)) noX) ∧ (b = false → I (j + 1) acc (rstE env' vs env3))) noX) ∧ ∀ acc env', I ds.length acc env' → Q (.nd .lst acc) env')
  | no (h : False)
theorem LcT.ex {g : SemG} {t : SemT} {q : SemE} {vs : List Nat} {Q : T → Env → Prop} {ds : List D} {env1 : Env} : LcT g t q vs Q ds env1 → ∃ I : Nat → List T → Env → Prop, I 0 [] env1 ∧
  (∀ j d acc env', ds[j]? = some d → I j acc env' → g d (wipeE env' vs) fun env2 => t env2 (fun b env3 => (b = true → q env3 (fun w env4 => I (j + 1) (acc ++ [w]) (rstE env' vs env4)) noX) ∧ (b = false → I (j + 1) acc (rstE env' vs env3))) noX) ∧ ∀ acc env', I ds.length acc env' → Q (.nd .lst acc) env'
  | .mk h => h
  | .no h => h.elim
theorem LcT.fr {g : SemG} {t : SemT} {q : SemE} {vs : List Nat} {Q : T → Env → Prop} {ds : List D} {env : Env} (ms : List Nat) (I : Nat → List T → List (Option T) → Prop) (h0 : ∃ us, env = putE env ms us ∧ I 0 [] us)
    (hs : ∀ j d acc us, ds[j]? = some d → I j acc us → g d (wipeE (putE env ms us) vs) fun env2 => t env2 (fun b env3 => (b = true → q env3 (fun w env4 => ∃ us', rstE (putE env ms us) vs env4 = putE env ms us' ∧ I (j + 1) (acc ++ [w]) us') noX) ∧ (b = false → ∃ us', rstE (putE env ms us) vs env3 = putE env ms us' ∧ I (j + 1) acc us')) noX) (he : ∀ acc us, I ds.length acc us → Q (.nd .lst acc) (putE env ms us)) : LcT g t q vs Q ds env :=
  .mk ⟨fun j acc e => ∃ us, e = putE env ms us ∧ I j acc us, h0, fun j d acc env' hd ⟨us, e, i⟩ => by subst e; exact hs j d acc us hd i, fun acc env' ⟨us, e, i⟩ => by subst e; exact he acc us i⟩
section
variable {X : Cx} {W : WX} {Mi Mt Me M IO SS : List Nat} {elt tg iter e : Expr} {ifs : List Expr} {scope : Scope} {own : List (Str × Nat)} {pos spos py : Pos} {qi : SemI} {g : SemG} {t : SemT} {q : SemE} {y : Str} {i : Nat}
end
end QV

set_option Elab.async false
set_option linter.all false
set_option maxRecDepth 100000
set_option maxHeartbeats 2000000
namespace QV
open PySem PySem.Spec PyProof.Rows L2
section
variable {K : PySem.W.Frag} {B H : Hp} {ow : Ow} {σ : L2.St} {env : Env} {i n : Nat}
end
section
variable {X : Cx} {W : WX} {Ma Mb IO : List Nat} {e ix : Expr} {q qi : SemE} {x : Str} {px tpos pos : Pos}
end
end QV

set_option Elab.async false
set_option linter.all false
set_option maxRecDepth 100000
set_option maxHeartbeats 2000000
namespace QV
open PySem PySem.Spec PyProof.Rows L2
def dd (ns : List Int) : List Int := PyProof.Rows.firstMet (fun i => ns.getD i 0) ns.length
section
variable {X : Cx} {W : WX} {M : List Nat} {root : Option Nat} {pa : SemP}
end
end QV

set_option Elab.async false
set_option linter.all false
set_option maxRecDepth 100000
set_option maxHeartbeats 2000000
namespace QV
open PySem L2
end QV

set_option Elab.async false
set_option linter.all false
set_option maxRecDepth 100000
set_option maxHeartbeats 2000000
namespace L2
open PySem PySem.Spec PyProof.Rows
theorem mergeK_fresh : ∀ (more kvs : List (Key × V)), ((kvs ++ more).map (·.1)).Nodup → mergeK kvs more = kvs ++ more
  | [], kvs, _ => by simp [mergeK]
  | p :: r, kvs, h => by
    have hv : valV kvs p.1 = none := by
      rw [List.map_append, List.map_cons] at h
      have h1 := (List.nodup_append.mp h).2.2
      cases e : valV kvs p.1 with
      | none => rfl
      | some v =>
        exfalso
        have hm : p.1 ∈ kvs.map (·.1) := by
          clear h h1
          induction kvs with
          | nil => cases e
          | cons q kvs ih =>
            by_cases z : q.1 = p.1
            · rw [← z]; simp
            · rw [valV_neg z] at e
              exact List.mem_cons_of_mem _ (ih e)
        exact h1 p.1 hm p.1 (by simp) rfl
    show mergeK (putK kvs p.1 p.2) r = _
    rw [putK_new p.2 hv, mergeK_fresh r (kvs ++ [(p.1, p.2)]) (by simpa using h)]
    simp
theorem mergeK_nil {more : List (Key × V)} (h : (more.map (·.1)).Nodup) : mergeK [] more = more := by
  rw [mergeK_fresh more [] (by simpa using h), List.nil_append]
section
variable {X : Cx}
end
end L2
namespace QV
open PySem PySem.Spec PyProof.Rows L2
def isDT : T → Bool
  | .fz (.nd (.dK _) _) => true
  | .ow (.dK _) _ => true
  | .fz (.nd (.dT _) _) => true
  | .ow (.dT _) _ => true
  | _ => false
theorem isD_of {K : PySem.W.Frag} {H : Hp} {ow : Ow} {x : V} {t : T} (h : Ro K H ow x t) (e : isDT t = true) : ∃ a, x = .ref a ∧ IsD H a := by
  unfold isDT at e
  split at e
  · obtain ⟨a, vs, rfl, c, _⟩ := h.dK rfl; exact ⟨a, rfl, .inl ⟨_, .inl c⟩⟩
  · obtain ⟨a, vs, rfl, c, _⟩ := h.dK rfl; exact ⟨a, rfl, .inl ⟨_, .inl c⟩⟩
  · obtain ⟨a, vs, rfl, c, _⟩ := h.dT rfl; exact ⟨a, rfl, .inr ⟨_, .inl c⟩⟩
  · obtain ⟨a, vs, rfl, c, _⟩ := h.dT rfl; exact ⟨a, rfl, .inr ⟨_, .inl c⟩⟩
  · cases e
def sGet2 (pa : SemP) (qb qc : SemE) : SemE := fun env Q E => pa env (fun t _ env1 => isDT t = true ∧ qb env1 (fun u env2 => qc env2 (fun w env3 => match w with
  | .fz d => ∃ o, dGet t u = some o ∧ Q (.fz (o.getD d)) env3
  | _ => False) E) E) E
section
variable {X : Cx} {W : WX} {M Ma Mb Mc : List Nat} {o e f : Expr} {pa : SemP} {qb qc : SemE} {ra : Option Nat} {apos cpos : Pos}
theorem q_dget2 (hu : X.A.units + 65 < cLine) (ho : QP X W Ma ra o pa) (he : QE X W Mb e qb) (hf : QE X W Mc f qc) (hr : okR ra (Mb ++ Mc) = true := by decide) (m : M2 X o "get" apos e f cpos := by exact ⟨rfl, rfl, rfl, rfl⟩) : QE X W (Ma ++ (Mb ++ Mc)) (.Call (.Attribute o "get" apos) [e, f] [] cpos) (sGet2 pa qb qc) :=
  ⟨PE_imp (pe_dget2 (by omega) ho.run he.run hf.run m) fun σ H Qv ⟨n, ow, env, Q, E, s, hq, k, x⟩ => ⟨n, ow, env, _, E, s, hq, fun v t pt H1 ow1 env1 y1 s1 o1 r1 ⟨hd, z1⟩ => by
    obtain ⟨a, rfl, hD⟩ := isD_of (r1.ro s1) hd
    have x1 : Xk X.K W (Mb ++ Mc) σ H1 (n + 1) ow1 env1 E := x.step y1 o1 subl subr (Nat.le_refl _) (Nat.le_succ _)
    refine ⟨a, rfl, hD, n + 1, ow1, env1, _, E, s1, z1, fun w u H2 ow2 env2 y2 s2 o2 r2 z2 => ?_, fun r d H' ow' env' y s' o => x1 r d H' ow' env' (y.mono subl (Nat.le_refl _)) s' (o.mono subl)⟩
    refine ⟨n + 2, ow2, env2, _, E, s2, z2, fun w3 u3 H3 ow3 env3 y3 s3 o3 r3 z3 => ?_, x1.step y2 o2 subl subr (Nat.le_refl _) (Nat.le_succ _)⟩
    split at z3
    · rename_i d
      obtain ⟨o, eo, q⟩ := z3
      have y23 : Stp (Mb ++ Mc) (n + 1) H1 ow1 H3 ow3 := y2.trans y3 subl subr (Nat.le_refl _) (Nat.le_succ _)
      have o23 : Out (Mb ++ Mc) env1 env3 := o2.trans o3 subl subr
      obtain ⟨a', r, ea, g, _, hr'⟩ := dget_of ((r1.stp y23 o23 hr (Nat.lt_succ_self _)).ro s3) ⟨_, (y3.car (l := .tm (n + 1)) (Nat.lt_succ_self _)).tq r2⟩ eo
      cases ea
      refine ⟨r, g, k _ (.fz (o.getD d)) H3 ow3 env3 (y1.trans y23 subl subr (Nat.le_refl _) (Nat.le_succ _)) s3 (o1.trans o23 subl subr) (Tq.fz_.mpr ?_) q⟩
      rcases hr' with ⟨rfl, rfl⟩ | ⟨d', v, rfl, rfl, rv⟩
      · exact Tq.fz_.mp r3
      · exact rv
    · exact z3.elim, fun r d H' ow' env' y s' o => x r d H' ow' env' (y.mono subl (Nat.le_refl _)) s' (o.mono subl)⟩⟩
end
abbrev SemPr := Env → (List Key → List D → Env → Prop) → XQ → Prop
def tPr (K : PySem.W.Frag) (W : WX) (M : List Nat) (q : SemPr) (σ : L2.St) (H : Hp) (Qv : List (V × V) → Hp → Prop) : Prop := ∃ (n : Nat) (ow : Ow) (env : Env) (Q : List Key → List D → Env → Prop) (E : XQ), StOk K H ow σ env ∧ q env Q E ∧
  (∀ (vs : List V) (ks : List Key) (ds : List D) (H' : Hp) (ow' : Ow) (env' : Env), Stp M n H ow H' ow' → StOk K H' ow' σ env' → Out M env env' → ks.length = vs.length → Rps K (Bs H' ow') vs ds → Q ks ds env' → Qv ((ks.map kV).zip vs) H') ∧ Xk K W M σ H n ow env E
structure QPr (X : Cx) (W : WX) (M : List Nat) (pos : Pos) (ks : List (Option Expr)) (vs : List Expr) (q : SemPr) : Prop where
  run : ∃ trs, PPs X pos ks vs trs ∧ ∀ σ H Qv, tPr X.K W M q σ H Qv → tPairs trs σ H Qv
def sPrN : SemPr := fun env Q _ => Q [] [] env
def sPrC (qk qv : SemE) (qr : SemPr) : SemPr := fun env Q E => qk env (fun t env1 => match keyD t.d with
  | some k => (∃ d, t = .fz d) ∧ qv env1 (fun u env2 => match u with
    | .fz e => qr env2 (fun ks ds env3 => Q (k :: ks) (e :: ds) env3) E
    | _ => False) E
  | none => False) E
def sDis (q : SemPr) : SemE := fun env Q E => q env (fun ks ds env1 => (ks.Nodup ∧ ks.length ≤ 15) ∧ Q (.ow (.dK ks) ds) env1) E
section
variable {X : Cx} {W : WX} {M Ma Mb Mc : List Nat} {o e f : Expr} {ks : List (Option Expr)} {vs : List Expr} {qk qv : SemE} {qr : SemPr} {pos : Pos}
theorem pr_nil : QPr X W [] pos [] [] sPrN := ⟨[], pps_nil, fun σ H Qv ⟨n, ow, env, Q, E, s, hq, k, x⟩ => k [] [] [] H ow env Stp.refl s Out.refl rfl .nil hq⟩
theorem pr_cons (hk : QE X W Ma e qk) (hv : QE X W Mb f qv) (hr : QPr X W Mc pos ks vs qr) : QPr X W (Ma ++ (Mb ++ Mc)) pos (some e :: ks) (f :: vs) (sPrC qk qv qr) := by
  obtain ⟨trs, hp, ht⟩ := hr
  refine ⟨_, pps_cons hk.run hv.run hp, fun σ H Qv ⟨n, ow, env, Q, E, s, hq, k, x⟩ => ⟨n, ow, env, _, E, s, hq, fun v t H1 ow1 env1 y1 s1 o1 r1 z1 => ?_, fun r d H' ow' env' y s' o => x r d H' ow' env' (y.mono subl (Nat.le_refl _)) s' (o.mono subl)⟩⟩
  split at z1
  · rename_i key ek
    obtain ⟨⟨d0, rfl⟩, z1⟩ := z1
    have x1 : Xk X.K W (Mb ++ Mc) σ H1 (n + 1) ow1 env1 E := x.step y1 o1 subl subr (Nat.le_refl _) (Nat.le_succ _)
    refine ⟨n + 1, ow1, env1, _, E, s1, z1, fun w u H2 ow2 env2 y2 s2 o2 r2 z2 => ?_, fun r d H' ow' env' y s' o => x1 r d H' ow' env' (y.mono subl (Nat.le_refl _)) s' (o.mono subl)⟩
    split at z2
    · rename_i d
      refine ht σ H2 _ ⟨n + 2, ow2, env2, _, E, s2, z2, fun vs ks ds H3 ow3 env3 y3 s3 o3 hl rr z3 => ?_, x1.step y2 o2 subl subr (Nat.le_refl _) (Nat.le_succ _)⟩
      have y23 : Stp (Mb ++ Mc) (n + 1) H1 ow1 H3 ow3 := y2.trans y3 subl subr (Nat.le_refl _) (Nat.le_succ _)
      have o23 : Out (Mb ++ Mc) env1 env3 := o2.trans o3 subl subr
      have ev := rp_key (Tq.fz_.mp r1) ek
      subst ev
      have := k (w :: vs) (key :: ks) (d :: ds) H3 ow3 env3 (y1.trans y23 subl subr (Nat.le_refl _) (Nat.le_succ _)) s3 (o1.trans o23 subl subr) (by simp [hl]) (.cons ((Tq.fz_.mp r2).mono y3.bs) rr) z3
      simpa using this
    · exact z2.elim
  · exact z1.elim
theorem q_dis (h : QPr X W M pos ks vs qr) (hall : ks.all (·.isSome) = true := by rfl) (hl : ks.length = vs.length := by rfl) (h0 : ks ≠ [] := by exact fun z => nomatch z) (h15 : ks.length ≤ 15 := by decide) : QE X W M (.Dict ks vs pos) (sDis qr) := by
  obtain ⟨trs, hp, ht⟩ := h
  refine ⟨PE_imp (pe_disp hp hall hl h0 h15) fun σ H Qv ⟨n, ow, env, Q, E, s, hq, k, x⟩ p hpn => ?_⟩
  have y0 : ∀ {m}, Stp ([] : List Nat) m H ow (upd H p (.dK [])) (Ow.put ow p (.tm n)) := fun {m} => Stp.new hpn
  refine ht σ _ _ ⟨n + 1, _, env, _, E, s.stp0 (n := 0) y0, hq, fun vs ks ds H2 ow2 env2 y2 s2 o2 hlen rr z2 => ?_, x.step (n1 := n) (M1 := []) y0 Out.refl nilsub (fun _ h => h) (Nat.le_refl _) (Nat.le_succ _)⟩
  obtain ⟨e2, f2⟩ := y2 p _ upd_same (by rw [put_same]; exact Nat.lt_succ_self n)
  rw [put_same] at f2
  obtain ⟨⟨hnd, h15'⟩, z2⟩ := z2
  have hl2 : (ks.zip vs).map (·.1) = ks := by rw [List.map_fst_zip]; omega
  have y3 : ∀ {M'}, Stp M' n H2 ow2 (upd H2 p (.dK (ks.zip vs))) ow2 := fun {M'} => ⟨fun b o e q => by
    have ne : b ≠ p := fun z => by
      rw [z, f2] at q
      exact Nat.lt_irrefl n q
    exact ⟨by rw [upd_ne ne]; exact e, rfl⟩, fun b ws e => by
    have ne : b ≠ p := fun z => by rw [z, e2] at e; cases e
    rw [upd_ne ne]; exact e⟩
  refine ⟨e2, ks.zip vs, ?_, by rw [List.length_zip]; omega, ?_⟩
  · clear z2 rr hnd hl2 y3 h15'
    induction ks generalizing vs with
    | nil => rfl
    | cons a ks ih =>
      cases vs with
      | nil => simp at hlen
      | cons b vs =>
        simp only [List.map_cons, List.zip_cons_cons]
        rw [ih vs (by simpa using hlen)]
  · rw [mergeK_nil (by rw [hl2]; exact hnd)]
    exact k _ _ _ ow2 env2 (((y0 (m := n)).trans y2 nilsub (fun _ h => h) (Nat.le_refl _) (Nat.le_succ _)).trans (M := M) (y3 (M' := [])) (fun _ h => h) nilsub (Nat.le_refl _) (Nat.le_refl _)) (s2.stp0 y3) o2 ⟨_, .ow (k := .dK ks) (dx := p) ⟨upd_same, by rw [← hlen]; exact Nat.le_trans h15' (by decide), hlen⟩ (fun b fb => by
      have eb : b = p := fb
      rw [eb]; exact f2) (rr.mono (y3 (M' := [])).bs)⟩ z2
end
section
variable {X : Cx} {W : WX} {M : List Nat} {e : Expr} {x : Str} {px : Pos}
end
section
variable {K : PySem.W.Frag} {B : Hp}
end
section
variable {X : Cx} {W : WX} {M : List Nat} {e : Expr} {pa : SemP} {root : Option Nat} {p pos : Pos}
end
end QV

set_option Elab.async false
set_option linter.all false
set_option maxRecDepth 100000
set_option maxHeartbeats 2000000
namespace QV
open PySem PySem.Spec PyProof.Rows L2
open Classical in
noncomputable def Ow.mvS (ow : Ow) (S : Addr → Prop) (l : Lab) : Ow := fun b => if S b then l else ow b
abbrev SemGT := List T → Env → (Env → Prop) → Prop
def tGT (K : PySem.W.Frag) (SS : List Nat) (g : SemGT) : TGs := fun vs σ H Q => ∃ (ow : Ow) (env : Env) (ts : List T) (S : Addr → Prop) (k : Env → Prop), StOk K H ow σ env ∧ Tps K H ow (.tm 0) vs ts S ∧ g ts env k ∧
  ∀ σ' env' ow', Stp [] 0 H ow H ow' → Tch SS σ σ' → StOk K H ow' σ' env' → k env' → Q σ' H
structure QGT (X : Cx) (SS : List Nat) (tg : List Expr) (g : SemGT) : Prop where
  run : PGs X tg (tGT X.K SS g)
section
variable {X : Cx} {SS S1 S2 IO : List Nat} {es : List Expr} {g : SemGT} {pos : Pos}
end
end QV

set_option Elab.async false
set_option linter.all false
set_option maxRecDepth 100000
set_option maxHeartbeats 2000000
namespace QV
open PySem PySem.Spec PyProof.Rows L2
def rEqLen (K : PySem.W.Frag) : R2 := fun x y H Q => ∃ a b xs ys, x = .ref a ∧ y = .ref b ∧ SqL K H a xs ∧ SqL K H b ys ∧ xs.length ≠ ys.length ∧ Q (.bl false) H
theorem op_eqLen {X : Cx} (hu : X.A.units + 64 < cLine) : OpR X (compareOp .Eq) (rEqLen X.K) := by
  intro pins s σ H x y v u Q I rx ry h
  obtain ⟨a, b, xs, ys, rfl, rfl, ha, hb, hne, q⟩ := h
  cases rx
  cases ry
  obtain ⟨its, rv, pl, _⟩ := I.list ha
  obtain ⟨its2, rv2, pl2, _⟩ := I.list hb
  refine PySem.SeqAt.eq_list_lengthsAt pl.isList pl2.isList ?_ (by omega) ⟨.bl false, H, I, rfl, q⟩
  have e1 := rv.length
  have e2 := rv2.length
  simp only [bne_iff_ne, ne_eq, List.size_toArray]
  omega
def eqLG (t u : T) (Q : T → Prop) : Prop := eqG false t u Q ∨ ∃ xs ys, shL t = some xs ∧ shL u = some ys ∧ xs.length ≠ ys.length ∧ Q (.fz (.bl false))
theorem g_eqL {K : PySem.W.Frag} : Op2 K (fun x y H Q => rEqAll K x y H Q ∨ rEqLen K x y H Q) eqLG := by
  intro H ow n x y t u Q Qv rx ry h k
  rcases h with h | ⟨xs, ys, e1, e2, hne, q⟩
  · exact .inl (g_eq H ow n x y t u Q Qv rx ry h k)
  · obtain ⟨a, vs, rfl, c, hz, rr⟩ := rx.lst e1
    obtain ⟨b, ws, rfl, c2, hz2, rr2⟩ := ry.lst e2
    exact .inr ⟨a, b, vs, ws, rfl, rfl, .inl (.inl c), .inl (.inl c2), by rw [rr.len, rr2.len]; exact hne, k _ _ H ow Stp.refl (Tq.fz_.mpr (.bl _)) q⟩
section
variable {X : Cx} {W : WX} {Ma Mb : List Nat} {a b : Expr} {pa pb : SemP} {ra rb : Option Nat} {pos : Pos}
theorem t_eqL (hu : X.A.units + 65 < cLine) (ha : QP X W Ma ra a pa) (hb : QP X W Mb rb b pb) (hr : okR ra Mb = true := by decide) : QT X W (Ma ++ Mb) (.Compare a [.Eq] [b] pos) (sT (s2 pa pb eqLG)) := t_cmpR ((op_eqAll (by omega)).or (op_eqLen (by omega))) g_eqL ha hb (nomark _) hr
end
end QV

set_option Elab.async false
set_option linter.all false
set_option maxRecDepth 100000
set_option maxHeartbeats 2000000
namespace QV
open PySem PySem.Spec PyProof.Rows L2
def keyOf : Key → D
  | .inl i => .int i
  | .inr x => .str x
section
variable {X : Cx} {W : WX} {M : List Nat} {e : Expr} {pa : SemP} {root : Option Nat} {p pos : Pos}
end
end QV

set_option Elab.async false
set_option linter.all false
set_option maxRecDepth 100000
set_option maxHeartbeats 2000000
namespace QV
open PySem PySem.Spec PyProof.Rows L2
mutual
def okD : D → Bool
  | .nd .tup ds => okDs ds
  | .nd .lst [] => true
  | .nd .lst (d :: ds) => !flD0 d && okDs (d :: ds)
  | d => flD0 d
def okDs : List D → Bool
  | [] => true
  | d :: ds => okD d && okDs ds
end
section
variable {K : PySem.W.Frag} {B B' : Hp}
def badO (o : HO) : Prop := ∃ (v : V) (vs : List V), o = .lst (v :: vs) ∧ ∀ a : Addr, v ≠ .ref a
theorem rp_ref {v : V} {d : D} (r : Rp K B v d) (h : flD0 d = false) : ∃ a, v = .ref a := by
  cases r with
  | non => cases h
  | bl b => cases h
  | int i => cases h
  | str x => cases h
  | _ => exact ⟨_, rfl⟩
theorem rp_nref {v : V} {d : D} (r : Rp K B v d) (h : flD0 d = true) : ∀ a : Addr, v ≠ .ref a := by
  cases r with
  | non => intro a e; cases e
  | bl b => intro a e; cases e
  | int i => intro a e; cases e
  | str x => intro a e; cases e
  | _ => cases h
mutual
theorem rp_keep (e : ∀ a o, B a = some o → ¬ badO o → B' a = some o) : ∀ {v : V} {d : D}, Rp K B v d → okD d = true → Rp K B' v d
  | _, _, .non, _ => .non
  | _, _, .bl b, _ => .bl b
  | _, _, .int i, _ => .int i
  | _, _, .str x, _ => .str x
  | _, _, .scr _, h => by simp [okD, flD0] at h
  | _, _, .exc0 _ _, h => by simp [okD, flD0] at h
  | _, _, .exc1 _ _ _, h => by simp [okD, flD0] at h
  | _, _, .tup c z r, h => .tup (e _ _ c fun ⟨_, _, q, _⟩ => nomatch q) z (rps_keep e r (by simpa [okD] using h))
  | _, _, .cell (k := k) (vs := vs) (ds := ds) hk c r, h => by
    cases k with
    | lst =>
      have hb : ¬ badO (.lst vs) := fun ⟨v0, vs0, q, nr⟩ => by
        have q : vs = v0 :: vs0 := by cases q; rfl
        subst q
        cases r with
        | cons r0 rs =>
          simp only [okD, Bool.and_eq_true, Bool.not_eq_true'] at h
          obtain ⟨a, ea⟩ := rp_ref r0 h.1
          exact nr a ea
      refine .cell hk ⟨e _ _ c.at_ hb, c.sz, trivial⟩ (rps_keep e r ?_)
      cases ds with
      | nil => rfl
      | cons d ds => simp only [okD, Bool.and_eq_true] at h; exact h.2
    | tup => exact absurd rfl hk
    | dK ks => simp [okD, flD0] at h
    | dT ks => simp [okD, flD0] at h
    | lkT o ks => simp [okD, flD0] at h
    | lsA b => simp [okD, flD0] at h
    | ins C ks => simp [okD, flD0] at h
theorem rps_keep (e : ∀ a o, B a = some o → ¬ badO o → B' a = some o) : ∀ {vs : List V} {ds : List D}, Rps K B vs ds → okDs ds = true → Rps K B' vs ds
  | _, _, .nil, _ => .nil
  | _, _, .cons r s, h => by
    simp only [okDs, Bool.and_eq_true] at h
    exact .cons (rp_keep e r h.1) (rps_keep e s h.2)
end
end
open Classical in
noncomputable def labV (C : Addr → Prop) (ow : Ow) : Ow := fun a => if ow a = .base ∨ C a then .base else .fr
section
variable {X : Cx} {W : WX} {M : List Nat} {k : Nat} {f : Addr} {fd : FuncData} {ps : List Str} {io cs : List Nat} {spec : SemF} {ks : List (Option Nat)} {e : Expr} {es : List Expr} {qs : SemD} {x : Str} {p pos : Pos}
end
end QV

set_option Elab.async false
set_option linter.all false
set_option maxRecDepth 100000
set_option maxHeartbeats 2000000
namespace QV
open PySem PySem.Spec PyProof.Rows L2
section
variable {X : Cx} {W : WX} {M Ma Mb : List Nat} {k : Nat} {f C : Addr} {fd : FuncData} {ps : List Str} {io : List Nat} {sp : Sp} {spec : SemF} {ks : List (Option Nat)} {o e : Expr} {es : List Expr} {q : SemE} {qs : SemD} {m x : Str} {p pos apos : Pos} {ta : TE} {t : TA} {pa : SemP} {root : Option Nat}
end
end QV

set_option Elab.async false
set_option linter.all false
set_option maxRecDepth 100000
set_option maxHeartbeats 2000000
namespace QV
open PySem PySem.Spec PyProof.Rows L2
section
variable {K : PySem.W.Frag} {B H : Hp} {ow : Ow} {σ : L2.St} {env : Env} {i n : Nat}
end
section
variable {X : Cx} {W : WX} {M Ma Mb IO : List Nat} {k : Nat} {f C : Addr} {fd : FuncData} {ps : List Str} {sp : Sp} {spec : SemF} {ks : List (Option Nat)} {e ix : Expr} {es : List Expr} {q qi : SemE} {qs : SemD} {x m : Str} {px tpos pos p : Pos} {t : TA}
end
section
variable {P : Program} {w : World} {K : PySem.W.Frag} {mg : Str → Option Value} {base : Heap}
end
end QV

set_option Elab.async false
set_option linter.all false
set_option maxRecDepth 100000
set_option maxHeartbeats 2000000
namespace QV
open PySem PySem.Spec PyProof.Rows L2
section
variable {X : Cx} {W : WX} {M IO : List Nat} {a b : Expr} {qs : SemD} {x y : Str} {px py pt pos : Pos} {ks : List (Option Nat)}
end
end QV

set_option Elab.async false
set_option linter.all false
set_option maxRecDepth 100000
set_option maxHeartbeats 2000000
namespace QV
open PySem PySem.Spec PyProof.Rows L2
mutual
def D.px : D → PyData
  | .non => .none
  | .bl b => .bool b
  | .int i => .int i
  | .str x => .str x
  | .nd .tup ds => .tuple (Dpxs ds)
  | .nd .lst ds => .list (Dpxs ds)
  | .nd (.dK []) [] => .dict []
  | _ => .none
def Dpxs : List D → List PyData
  | [] => []
  | d :: ds => D.px d :: Dpxs ds
end
mutual
def D.pt : Nat → D → Bool
  | _, .non => true
  | _, .bl _ => true
  | _, .int _ => true
  | _, .str x => true
  | _ + 1, .nd (.dK []) [] => true
  | n + 1, .nd .tup ds => Dpts n ds
  | n + 1, .nd .lst ds => Dpts n ds
  | _, _ => false
def Dpts : Nat → List D → Bool
  | _, [] => true
  | n, d :: ds => D.pt n d && Dpts n ds
end
mutual
theorem px_depth : ∀ {n : Nat} (d : D), d.pt n = true → d.px.depth ≤ n
  | n, .non, _ => by simp [D.px, PyData.depth]
  | n, .bl b, _ => by simp [D.px, PyData.depth]
  | n, .int i, _ => by simp [D.px, PyData.depth]
  | n, .str x, _ => by simp [D.px, PyData.depth]
  | 0, .nd .tup ds, h => by simp [D.pt] at h
  | n + 1, .nd .tup ds, h => by
    have := pxs_depth (n := n) ds (by simpa [D.pt] using h)
    simp only [D.px, PyData.depth]
    omega
  | 0, .nd (.dK []) [], h => by simp [D.pt] at h
  | n + 1, .nd (.dK []) [], _ => by simp [D.px, PyData.depth, PyData.depthKv]
  | n, .nd (.dK (_ :: _)) _, h => by cases n <;> simp [D.pt] at h
  | n, .nd (.dK []) (_ :: _), h => by cases n <;> simp [D.pt] at h
  | 0, .nd .lst ds, h => by simp [D.pt] at h
  | n + 1, .nd .lst ds, h => by
    have := pxs_depth (n := n) ds (by simpa [D.pt] using h)
    simp only [D.px, PyData.depth]
    omega
  | n, .nd (.dT _) _, h => by cases n <;> simp [D.pt] at h
  | n, .nd (.lkT _ _) _, h => by cases n <;> simp [D.pt] at h
  | n, .nd (.lsA _) _, h => by cases n <;> simp [D.pt] at h
  | n, .nd (.ins _ _) _, h => by cases n <;> simp [D.pt] at h
  | n, .scr _, h => by cases n <;> simp [D.pt] at h
  | n, .exc _ _ _ _ _, h => by cases n <;> simp [D.pt] at h
theorem pxs_depth : ∀ {n : Nat} (ds : List D), Dpts n ds = true → PyData.depthAll (Dpxs ds) ≤ n
  | n, [], _ => by simp [Dpxs, PyData.depthAll]
  | n, d :: ds, h => by
    have h' : D.pt n d = true ∧ Dpts n ds = true := by simpa [Dpts] using h
    have := px_depth d h'.1
    have := pxs_depth ds h'.2
    simp only [Dpxs, PyData.depthAll]
    omega
end
mutual
theorem shrx_ok : ∀ d : D, shrt d = true → d.px.leavesShort 41 = true ∧ d.px.showable = true ∧ d.px.weight ≤ szD d
  | .non, _ => ⟨rfl, rfl, by simp [D.px, PyData.weight]⟩
  | .bl _, _ => ⟨rfl, rfl, by simp [D.px, PyData.weight]⟩
  | .int i, h => by
    have h' : i.natAbs < 10000000000000000000000000000000000000000 := by simpa [shrt] using h
    refine ⟨?_, ?_, ?_⟩
    · simp only [D.px, PyData.leavesShort, decide_eq_true_eq]
      have e := int_text_length_le10 (k := 40) (by decide) (show i.natAbs < 10 ^ 40 by omega)
      have e2 : (PyData.int i).shown.length = (toString i).length := by
        rw [PyData.shown_int]
        exact PySem.ofString_length _
      rw [e2]
      exact e
    · simp only [D.px, PyData.showable, decide_eq_true_eq]
      have := log2_40 h'
      omega
    · simp only [D.px, PyData.weight, szD]
      have := log2_40 h'
      split <;> omega
  | .str x, h => by
    refine ⟨by simpa [D.px, PyData.leavesShort, shrt] using h, rfl, by simp [D.px, PyData.weight, szD]⟩
  | .scr _, _ => ⟨rfl, rfl, by simp [D.px, PyData.weight]⟩
  | .exc _ _ _ _ _, _ => ⟨rfl, rfl, by simp [D.px, PyData.weight]⟩
  | .nd .lst ds, h => by
    obtain ⟨a, b, c⟩ := shrxs_ok ds (by simpa [shrt] using h)
    exact ⟨by simpa [D.px, PyData.leavesShort] using a, by simpa [D.px, PyData.showable] using b, by simpa [D.px, PyData.weight, szD] using c⟩
  | .nd .tup ds, h => by
    obtain ⟨a, b, c⟩ := shrxs_ok ds (by simpa [shrt] using h)
    exact ⟨by simpa [D.px, PyData.leavesShort] using a, by simpa [D.px, PyData.showable] using b, by simpa [D.px, PyData.weight, szD] using c⟩
  | .nd (.dK []) [], _ => ⟨rfl, rfl, by simp [D.px, PyData.weight, PyData.weightKv]⟩
  | .nd (.dK []) (_ :: _), _ => ⟨rfl, rfl, by simp [D.px, PyData.weight]⟩
  | .nd (.dK (_ :: _)) ds, _ => ⟨rfl, rfl, by simp [D.px, PyData.weight]⟩
  | .nd (.dT _) ds, _ => ⟨rfl, rfl, by simp [D.px, PyData.weight]⟩
  | .nd (.lkT _ _) ds, _ => ⟨rfl, rfl, by simp [D.px, PyData.weight]⟩
  | .nd (.lsA _) ds, _ => ⟨rfl, rfl, by simp [D.px, PyData.weight]⟩
  | .nd (.ins _ _) ds, _ => ⟨rfl, rfl, by simp [D.px, PyData.weight]⟩
theorem shrxs_ok : ∀ ds : List D, shrts ds = true → PyData.leavesShortAll 41 (Dpxs ds) = true ∧ PyData.showableAll (Dpxs ds) = true ∧ PyData.weightAll (Dpxs ds) ≤ szDs ds
  | [], _ => ⟨rfl, rfl, by simp [Dpxs, PyData.weightAll]⟩
  | d :: ds, h => by
    have h' : shrt d = true ∧ shrts ds = true := by simpa [shrts] using h
    obtain ⟨a, b, c⟩ := shrx_ok d h'.1
    obtain ⟨a', b', c'⟩ := shrxs_ok ds h'.2
    exact ⟨by simp [Dpxs, PyData.leavesShortAll, a, a'], by simp [Dpxs, PyData.showableAll, b, b'], by simp only [Dpxs, PyData.weightAll, szDs]; omega⟩
end
theorem pts_all {n : Nat} : ∀ {ds : List D}, (∀ d, d ∈ ds → d.pt n = true) → Dpts n ds = true
  | [], _ => by simp [Dpts]
  | d :: ds, h => by simp only [Dpts, Bool.and_eq_true]; exact ⟨h d (by simp), pts_all fun e he => h e (by simp [he])⟩
theorem pt_lst {n : Nat} {ds : List D} (h : ∀ d, d ∈ ds → d.pt n = true) : (D.nd .lst ds).pt (n + 1) = true := by rw [D.pt]; exact pts_all h
theorem pt_tup {n : Nat} {ds : List D} (h : ∀ d, d ∈ ds → d.pt n = true) : (D.nd .tup ds).pt (n + 1) = true := by rw [D.pt]; exact pts_all h
def Sys (h : Heap) : Prop := ∃ o, h.get? sysModules = some o
section
variable {X : Cx} {pins : List (Addr × Obj)} {σ : L2.St} {H : Hp} {s : Shared}
theorem H_sys (hS : Sys X.base) (I : Inv X pins σ H s) : H sysModules = none := let ⟨o, e⟩ := hS; (I.bs _ o e).2
mutual
theorem px_reads (hS : Sys X.base) (I : Inv X pins σ H s) : ∀ {n : Nat} (d : D) (v : V) (u : Value), Rp X.K H v d → d.pt n = true → RelV v u → ∃ as, Reads s.heap u d.px as ∧ sysModules ∉ as
  | n, .non, _, _, h, _, r => by cases h; cases r; exact ⟨_, Reads.none, by simp⟩
  | n, .bl b, _, _, h, _, r => by cases h; cases r; exact ⟨_, Reads.bool b, by simp⟩
  | n, .int i, _, _, h, _, r => by cases h; obtain ⟨t, rfl⟩ := r; exact ⟨_, Reads.int i t, by simp⟩
  | n, .str x, _, _, h, _, r => by cases h; obtain ⟨t, rfl⟩ := r; exact ⟨_, Reads.str x t, by simp⟩
  | 0, .nd .tup ds, _, _, _, h, _ => by simp [D.pt] at h
  | n + 1, .nd .tup ds, _, _, h, k, r => by
    cases h with
    | tup c z rr =>
      cases r
      obtain ⟨its, rv, ⟨o, ho, hc, m, hd⟩, _⟩ := I.tuple (sqT_of c)
      obtain ⟨as, hr, hn⟩ := pxs_reads hS I (n := n) ds _ its rr (by simpa [D.pt] using k) rv
      exact ⟨_, Reads.tuple ho hc hd hr, hn⟩
    | cell hn _ _ => exact absurd rfl hn
  | n, .nd (.dK []) [], _, _, h, k, r => by
    cases h with
    | cell _ c rr =>
      cases rr
      cases r
      obtain ⟨_, hs, vs, kv, o, es, ep, h1, h2, h3, _, h5, _⟩ := dk_of I.hok c.at_
      have e0 : vs = [] := by
        have := kv.length
        simp at this
        exact List.eq_nil_of_length_eq_zero this.symm
      subst e0
      have e1 : es.toList = [] := by
        generalize es.toList = l at h5
        cases h5
        rfl
      refine ⟨_, Reads.dict (kvs := []) h1 h2.1 h3 (by rw [e1]; exact .nil) (by rw [e1]; exact .nil), ?_⟩
      simp
      intro z
      rw [← z] at hs
      simp at hs
  | n, .nd (.dK (_ :: _)) _, _, _, _, h, _ => by cases n <;> simp [D.pt] at h
  | n, .nd (.dK []) (_ :: _), _, _, _, h, _ => by cases n <;> simp [D.pt] at h
  | 0, .nd .lst ds, _, _, _, h, _ => by simp [D.pt] at h
  | n + 1, .nd .lst ds, _, _, h, k, r => by
    cases h with
    | cell _ c rr =>
      cases r
      obtain ⟨its, rv, ⟨o, m, ho, hc, _, hd⟩, _⟩ := I.list (.inl (.inl c.at_))
      obtain ⟨as, hr, hn⟩ := pxs_reads hS I (n := n) ds _ its rr (by simpa [D.pt] using k) rv
      refine ⟨_, Reads.list ho hc hd hr, ?_⟩
      have hs := c.at_
      simp only [List.mem_cons, not_or]
      refine ⟨fun z => ?_, hn⟩
      rw [← z, H_sys hS I] at hs
      cases hs
  | n, .nd (.dT _) _, _, _, _, h, _ => by cases n <;> simp [D.pt] at h
  | n, .nd (.lkT _ _) _, _, _, _, h, _ => by cases n <;> simp [D.pt] at h
  | n, .nd (.lsA _) _, _, _, _, h, _ => by cases n <;> simp [D.pt] at h
  | n, .nd (.ins _ _) _, _, _, _, h, _ => by cases n <;> simp [D.pt] at h
  | n, .scr _, _, _, _, h, _ => by cases n <;> simp [D.pt] at h
  | n, .exc _ _ _ _ _, _, _, _, h, _ => by cases n <;> simp [D.pt] at h
theorem pxs_reads (hS : Sys X.base) (I : Inv X pins σ H s) : ∀ {n : Nat} (ds : List D) (vs : List V) (us : List Value), Rps X.K H vs ds → Dpts n ds = true → Vals vs us → ∃ as, ReadsAll s.heap us (Dpxs ds) as ∧ sysModules ∉ as
  | n, [], _, _, h, _, r => by cases h; cases r; exact ⟨_, ReadsAll.nil, by simp⟩
  | n, d :: ds, _, _, h, k, r => by
    cases h with
    | cons h1 h2 =>
      cases r with
      | cons r1 r2 =>
        have k' : D.pt n d = true ∧ Dpts n ds = true := by simpa [Dpts] using k
        obtain ⟨as, q1, n1⟩ := px_reads hS I d _ _ h1 k'.1 r1
        obtain ⟨bs, q2, n2⟩ := pxs_reads hS I ds _ _ h2 k'.2 r2
        exact ⟨_, ReadsAll.cons q1 q2, by simp [n1, n2]⟩
end
end
def sD0 : SemE := fun env Q _ => Q (.ow (.dK []) []) env
theorem q_dict0 {X : Cx} {W : WX} {pos : Pos} : QE X W [] (.Dict [] [] pos) sD0 :=
  ⟨PE_imp pe_dnewK fun σ H Qv ⟨n, ow, env, Q, E, s, hq, k, x⟩ p hp => k _ _ _ (Ow.put ow p (.tm n)) env (Stp.new hp) (s.stp0 (n := 0) (Stp.new hp)) Out.refl
    ⟨_, .ow (k := .dK []) (dx := p) (vs := []) ⟨upd_same, by decide, show ([] : List Key).length = ([] : List V).length from rfl⟩ (fun b fb => by have e : b = p := fb; rw [e]; exact put_same) .nil⟩ hq⟩
section
variable {P : Program} {w : World} {K : PySem.W.Frag} {mg mb : Str → Option Value} {k : Nat} {fa a : Addr} {p1 : Str} {sp : Sp} {st : Shared}
end
end QV

set_option Elab.async false
set_option linter.all false
set_option maxRecDepth 100000
set_option maxHeartbeats 2000000
namespace QV
open PySem PySem.Spec PyProof.Rows L2
section
variable {X : Cx} {W : WX} {M : List Nat} {a : Expr} {pa : SemP} {ra : Option Nat} {x : Str} {p pos : Pos}
theorem q_globS {s : Str} (hg : Gl X x) (hm : ∃ t, X.mg x = some (.str s t)) (hd : (x == ("__debug__" : Str)) = false := by decide) : QE X W [] (.Name x pos) (sC (.str s)) :=
  let ⟨t, h⟩ := hm
  q_const (pe_glob (v := .str s) hg h ⟨t, rfl⟩ hd) fun _ => .str s
end
end QV

set_option Elab.async false
set_option linter.all false
set_option maxRecDepth 100000
set_option maxHeartbeats 2000000
namespace QV
open PySem PySem.Spec PyProof.Rows L2
section
variable {K : PySem.W.Frag} {H : Hp} {ow : Ow}
end
section
variable {X : Cx} {W : WX} {Ma Mb Mc : List Nat} {a b c tg : Expr} {qa qb qc : SemE} {p pos : Pos}
end
end QV

set_option Elab.async false
set_option linter.all false
set_option maxRecDepth 100000
set_option maxHeartbeats 2000000
namespace QV
open PySem PySem.Spec PyProof.Rows L2
section
variable {X : Cx} {W : WX} {M Ma Mb IO : List Nat} {e o ix : Expr} {q qi : SemE} {pa : SemP} {ra : Option Nat} {C : Addr} {x : Str} {pos tpos : Pos}
end
section
variable {κ : Type} [DecidableEq κ] {α : Type}
variable {K : PySem.W.Frag} {B : Hp}
end
section
variable {X : Cx} {W : WX} {M Ma Mb IO : List Nat} {e o ix : Expr} {q qi : SemE} {pa : SemP} {pos tpos : Pos}
end
end QV

set_option Elab.async false
set_option linter.all false
set_option maxRecDepth 100000
set_option maxHeartbeats 4000000
namespace QV
open PySem PySem.Spec PyProof.Rows L2
abbrev pr2D (p : Int × Int) : D := .nd .tup [.int p.1, .int p.2]
theorem pairs_of {K : PySem.W.Frag} {B : Hp} : ∀ {vs : List V} {ps : List (Int × Int)}, Rps K B vs (ps.map pr2D) → ∃ ks : List (Addr × List Int), vs = ks.map (fun p => V.ref p.1) ∧ ks.map (·.2) = ps.map (fun p => [p.1, p.2]) ∧ ∀ p, p ∈ ks → B p.1 = some (.tup (p.2.map V.int))
  | _, [], h => by cases h; exact ⟨[], rfl, rfl, by simp⟩
  | _, (x, y) :: ps, h => by
    cases h with
    | cons r s =>
      obtain ⟨ks, rfl, h2, h3⟩ := pairs_of s
      cases r with
      | tup c z r =>
        cases r with
        | cons r1 r =>
          cases r with
          | cons r2 r =>
            cases r
            cases r1
            cases r2
            exact ⟨(_, [x, y]) :: ks, rfl, by rw [List.map_cons, List.map_cons, h2], fun p hp => by
              rcases List.mem_cons.mp hp with rfl | q
              · exact c
              · exact h3 p q⟩
      | cell hn _ _ => exact absurd rfl hn
section
variable {X : Cx} {W : WX} {M : List Nat} {e : Expr} {pa : SemP} {root : Option Nat} {p p2 pos pos2 : Pos}
end
end QV

set_option Elab.async false
set_option linter.all false
set_option maxRecDepth 100000
set_option maxHeartbeats 2000000
namespace QV
open PySem PySem.Spec PyProof.Rows L2
section
variable {X : Cx} {W : WX} {M Ma Mb IO : List Nat} {k : Nat} {f C : Addr} {fd : FuncData} {ps : List Str} {io : List Nat} {sp : Sp} {spec : SemF} {ks : List (Option Nat)} {e : Expr} {es : List Expr} {q : SemE} {qs : SemD} {m x : Str} {px p pos apos : Pos}
end
section
variable {X : Cx} {W : WX} {M IO : List Nat} {C : Addr} {e : Expr} {q : SemE} {x m : Str} {px tpos pos : Pos}
end
end QV

set_option Elab.async false
set_option linter.all false
set_option maxRecDepth 100000
set_option maxHeartbeats 2000000
namespace L2
open PySem PySem.Spec PyProof.Rows
section
variable {X : Cx}
end
end L2
namespace QV
open PySem PySem.Spec PyProof.Rows L2
section
variable {κ : Type} [DecidableEq κ] {α : Type}
variable {K : PySem.W.Frag} {B : Hp}
end
section
variable {X : Cx} {W : WX} {Ma Mb : List Nat} {e o : Expr} {pa : SemP} {q : SemE}
end
end QV

set_option Elab.async false
set_option linter.all false
set_option maxRecDepth 100000
set_option maxHeartbeats 2000000
namespace QV
open PySem PySem.Spec PyProof.Rows L2
mutual
def T.sub : T → List Nat → Option T
  | t, [] => some t
  | .nd _ ts, j :: p => Tsub ts j p
  | _, _ :: _ => none
def Tsub : List T → Nat → List Nat → Option T
  | [], _, _ => none
  | t :: _, 0, p => T.sub t p
  | _ :: ts, j + 1, p => Tsub ts j p
end
theorem Tsub_get : ∀ {ts : List T} {j : Nat} {p : List Nat} {t : T}, Tsub ts j p = some t → ∃ t1, ts[j]? = some t1 ∧ T.sub t1 p = some t
  | [], _, _, _, h => by cases h
  | t1 :: _, 0, _, _, h => ⟨t1, rfl, h⟩
  | _ :: ts, j + 1, p, t, h => by
    obtain ⟨t1, e, h'⟩ := Tsub_get (ts := ts) (j := j) h
    exact ⟨t1, by simpa using e, h'⟩
theorem sub_of {K : PySem.W.Frag} {H : Hp} {ow : Ow} {l : Lab} : ∀ {p : List Nat} {t0 t : T} {v0 : V}, T.sub t0 p = some t → Tq K H ow l v0 t0 → ∃ v, Sub K H ow l v0 t0 p v t
  | [], t0, t, v0, h, r => by
    have : t0 = t := by cases t0 <;> exact Option.some.inj h
    subst this
    exact ⟨v0, .nil⟩
  | j :: p, t0, t, v0, h, ⟨S, r⟩ => by
    cases r with
    | fz _ => cases h
    | ow _ _ _ => cases h
    | nd c f r =>
      obtain ⟨t1, e1, h1⟩ := Tsub_get (show Tsub _ j p = some t from h)
      have lt := (List.getElem?_eq_some_iff.mp e1).1
      rw [← r.len] at lt
      have ev := List.getElem?_eq_getElem lt
      obtain ⟨S1, r1⟩ := r.get ev e1
      obtain ⟨v, sb⟩ := sub_of h1 ⟨S1, r1⟩
      exact ⟨v, .cons c (fun b fb => (f b fb).1) ev e1 sb⟩
section
variable {X : Cx} {W : WX} {M : List Nat} {e : Expr} {q : SemE}
end
def keyT (k : List Key) : D := .nd .tup (k.map keyOf)
section
variable {X : Cx} {W : WX} {M : List Nat} {e : Expr} {pa : SemP} {root : Option Nat} {p pos : Pos}
end
end QV

set_option Elab.async false
set_option linter.all false
set_option maxRecDepth 100000
set_option maxHeartbeats 2000000
namespace QV.SM
open PySem PyProof.Rows QV
section
variable {prog : Program} {w : World} {A : Around} {E : Value → Shared → Prop} {s : Shared}
end
end QV.SM
namespace QV
open PySem PySem.Spec PyProof.Rows L2
open Classical in
section
variable {X : Cx} {W : WX} {M : List Nat} {e : Expr} {root : Option Nat} {pa : SemP} {pos p : Pos}
end
end QV

set_option Elab.async false
set_option linter.all false
set_option maxRecDepth 100000
set_option maxHeartbeats 2000000
namespace QV
open PySem PySem.Spec PyProof.Rows L2
section
variable {X : Cx} {W : WX} {M : List Nat} {e : Expr} {pa : SemP} {root : Option Nat} {p pos cp : Pos} {y : Str} {C : Addr}
end
end QV

set_option Elab.async false
set_option linter.all false
set_option maxRecDepth 100000
set_option maxHeartbeats 2000000
namespace QV
open PySem PySem.Spec PyProof.Rows L2
section
variable {P : Program} {w : World} {K : PySem.W.Frag} {mg : Str → Option Value} {base : Heap}
end
end QV

set_option Elab.async false
set_option linter.all false
set_option maxRecDepth 100000
set_option maxHeartbeats 2000000
namespace QV
open PySem PySem.Spec PyProof.Rows L2
inductive HdsMix (X : Cx) : List ExceptHandler → List (Value × Option Nat × (Addr → Value → Option Addr → TS)) → Prop
  | nil : HdsMix X [] []
  | only {x : Str} {c : Value} {ts : Addr → Value → Option Addr → TS} {b₀ : Stmt} {suite : List Stmt} {np pos' : Pos} {hds : List ExceptHandler} {l : List (Value × Option Nat × (Addr → Value → Option Addr → TS))} (hc : Names X x c)
      (hsu : ∀ (a : Addr) (oe : Obj) (cls : Value) (d : Option Addr) (pn : List (Addr × Obj)), Zc cls d oe → (∃ vs, oe.data = .fields vs) → PSs (X.suite a ((a, oe) :: pn)) (b₀ :: suite) (ts a cls d)) (r : HdsMix X hds l) :
      HdsMix X (.ExceptHandler (some (.Name x np)) none (b₀ :: suite) pos' :: hds) ((c, none, ts) :: l)
  | as_ {x n : Str} {i : Nat} {c : Value} {ts : Addr → Value → Option Addr → TS} {b₀ : Stmt} {suite : List Stmt} {np pos' : Pos} {hds : List ExceptHandler} {l : List (Value × Option Nat × (Addr → Value → Option Addr → TS))} (hi : X.N[i]? = some n) (hln : X.env.kindOf n = some .local) (hc : Names X x c)
      (hsu : ∀ (a : Addr) (oe : Obj) (cls : Value) (d : Option Addr) (pn : List (Addr × Obj)), Zc cls d oe → (∃ vs, oe.data = .fields vs) → PSs (X.suite a ((a, oe) :: pn)) (b₀ :: suite) (ts a cls d)) (r : HdsMix X hds l) :
      HdsMix X (.ExceptHandler (some (.Name x np)) (some n) (b₀ :: suite) pos' :: hds) ((c, some i, ts) :: l)
section
variable {X : Cx} {body : List Stmt} {h₀ : ExceptHandler} {hds : List ExceptHandler} {l : List (Value × Option Nat × (Addr → Value → Option Addr → TS))} {pos : Pos} {tb : WX → TS} {Wout : WX}
end
abbrev HdS := Option Nat × Str × (Addr → Addr → Option Addr → SemS)
inductive QHs (X : Cx) (W : WX) (IO : List Nat) (cs : List Str) : List ExceptHandler → List HdS → Prop
  | nil : QHs X W IO cs [] []
  | only {y : Str} {ss : Addr → Addr → Option Addr → SemS} {b0 : Stmt} {suite : List Stmt} {np pos' : Pos} {hds : List ExceptHandler} {l : List HdS} (hy : y ∈ cs) (hgy : Gl X y)
      (hsu : ∀ (a C : Addr) (d : Option Addr) (pn : List (Addr × Obj)), Pn (X.suite a pn) a C d → QSs (X.suite a pn) W IO (b0 :: suite) (ss a C d)) (r : QHs X W IO cs hds l) (hdy : (y == ("__debug__" : Str)) = false := by decide) :
      QHs X W IO cs (.ExceptHandler (some (.Name y np)) none (b0 :: suite) pos' :: hds) ((none, y, ss) :: l)
  | as_ (i : Nat) {y n : Str} {ss : Addr → Addr → Option Addr → SemS} {b0 : Stmt} {suite : List Stmt} {np pos' : Pos} {hds : List ExceptHandler} {l : List HdS} (hy : y ∈ cs) (hgy : Gl X y)
      (hsu : ∀ (a C : Addr) (d : Option Addr) (pn : List (Addr × Obj)), Pn (X.suite a pn) a C d → QSs (X.suite a pn) W IO (b0 :: suite) (ss a C d)) (r : QHs X W IO cs hds l) (hi : X.N[i]? = some n := by rfl) (hln : X.env.kindOf n = some .local := by rfl) (hdy : (y == ("__debug__" : Str)) = false := by decide) (hio : i ∉ IO := by decide) :
      QHs X W IO cs (.ExceptHandler (some (.Name y np)) (some n) (b0 :: suite) pos' :: hds) ((some i, y, ss) :: l)
section
variable {X : Cx} {W : WX} {IO : List Nat} {ca : Str → Addr} {ns ts cs fs : List Str} {isa : Str → Str → Bool}
end
end QV

set_option Elab.async false
set_option linter.all false
set_option maxRecDepth 100000
set_option maxHeartbeats 2000000
namespace QV
open PySem PySem.Spec PyProof.Rows L2
open Classical in
noncomputable def lendIn (St : Addr → Prop) (ow : Ow) : Ow := fun a => if St a then .sl 0 else if ow a = .base then .base else .fr
open Classical in
noncomputable def lendBack (St : Addr → Prop) (H : Hp) (ow : Ow) (i m : Nat) (owc : Ow) : Ow := fun a => if (H a).isSome = true ∧ ¬ St a then ow a else match owc a with
  | .sl 0 => .sl i
  | .base => .base
  | .fr => .fr
  | _ => .tm m
section
variable {X : Cx} {W : WX} {Ma Mb : List Nat} {k : Nat} {ps : List Str} {spec : SemF} {ks : List (Option Nat)} {e : Expr} {es : List Expr} {pa : SemP} {qs : SemD} {x : Str} {p pos : Pos}
end
end QV

set_option Elab.async false
set_option linter.all false
set_option maxRecDepth 100000
set_option maxHeartbeats 2000000
namespace QV
open PySem PySem.Spec PyProof.Rows L2
open Classical in
noncomputable def lendIn2 (St : Addr → Prop) (c : Nat) (ow : Ow) : Ow := fun a => if St a then .sl 1 else if ow a = .sl c then .sl 0 else if ow a = .base then .base else .fr
open Classical in
noncomputable def lendBack2 (St : Addr → Prop) (H : Hp) (ow : Ow) (c i m : Nat) (owc : Ow) : Ow := fun a => if (H a).isSome = true ∧ ¬ (St a ∨ ow a = .sl c) then ow a else match owc a with
  | .sl 0 => .sl c
  | .sl 1 => .sl i
  | .base => .base
  | .fr => .fr
  | _ => .tm m
section
variable {X : Cx} {W : WX} {Ma Mb : List Nat} {k : Nat} {ps : List Str} {spec : SemF} {ks : List (Option Nat)} {e : Expr} {es : List Expr} {pa : SemP} {qs : SemD} {x y : Str} {p pos py : Pos}
end
end QV

set_option Elab.async false
set_option linter.all false
set_option maxRecDepth 100000
set_option maxHeartbeats 2000000
namespace QV
open PySem PySem.Spec PyProof.Rows L2
def spIni2 (K : PySem.W.Frag) (f g : Str) : Sp := fun vs H Q _ => ∃ a C y z, vs = [.ref a, y, z] ∧ OexC K C ∧ H a = some (exo a C none) ∧ PySem.W.findIn K (.ref C) f = some none ∧ PySem.W.findIn K (.ref C) g = some none ∧
  ∀ dx, H dx = none → dx ≠ a → Q .non (upd (upd (upd H dx (exd dx [(f, y)])) a (exo a C (some dx))) dx (exd dx [(g, z), (f, y)]))
structure BareG2 (P : Program) (w : World) (K : PySem.W.Frag) (mg : Str → Option Value) (base : Heap) (k : Nat) (x : Str) (C : Addr) (f g : Str) (ps : List Str) : Prop where
  at_ : mg x = some (.ref C)
  no1 : PySem.W.findIn K (.ref C) f = some none
  no2 : PySem.W.findIn K (.ref C) g = some none
  ex : ∃ fI fd, OexC K C ∧ PySem.W.findIn K (.ref C) "__init__" = some (some (.ref fI)) ∧ PySem.W.typeIn K (.ref fI) = some (.type "function") ∧ FnOk P w K mg base (L2.CX P w) k fI fd ps (spIni2 K f g) ∧ Binds K fd ps []
structure Bare2 (X : Cx) (k : Nat) (x : Str) (C : Addr) (f g : Str) (ps : List Str) : Prop where
  mg : X.mg x = some (.ref C)
  no1 : PySem.W.findIn X.K (.ref C) f = some none
  no2 : PySem.W.findIn X.K (.ref C) g = some none
  ex : ∃ fI fd, OexC X.K C ∧ PySem.W.findIn X.K (.ref C) "__init__" = some (some (.ref fI)) ∧ PySem.W.typeIn X.K (.ref fI) = some (.type "function") ∧ FnOk X.prog X.w X.K X.mg X.base (L2.CX X.prog X.w) k fI fd ps (spIni2 X.K f g) ∧ Binds X.K fd ps []
end QV

set_option Elab.async false
set_option linter.all false
set_option maxRecDepth 100000
set_option maxHeartbeats 2000000
namespace QV
open PySem PySem.Spec PyProof.Rows L2
section
variable {X : Cx} {W : WX} {Ma Mb : List Nat} {a b : Expr} {pa pb : SemP} {ra rb : Option Nat} {pos : Pos}
end
end QV

set_option Elab.async false
set_option linter.all false
set_option maxRecDepth 100000
set_option maxHeartbeats 2000000
namespace QV
open PySem PySem.Spec PyProof.Rows L2
section
variable {X : Cx} {W : WX} {M Ma Mb IO : List Nat} {a b e o ix : Expr} {pa : SemP} {qb q qi : SemE} {ra root : Option Nat} {pos tpos : Pos}
end
section
variable {X : Cx} {W : WX} {Ma Mb : List Nat} {a b : Expr} {pa pb : SemP} {ra rb : Option Nat} {pos : Pos}
end
abbrev SemPT := Env → (List Key → List T → Env → Prop) → XQ → Prop
def tPT (K : PySem.W.Frag) (W : WX) (M : List Nat) (q : SemPT) (σ : L2.St) (H : Hp) (Qv : List (V × V) → Hp → Prop) : Prop := ∃ (n : Nat) (ow : Ow) (env : Env) (Q : List Key → List T → Env → Prop) (E : XQ), StOk K H ow σ env ∧ q env Q E ∧
  (∀ (vs : List V) (ks : List Key) (ts : List T) (H' : Hp) (ow' : Ow) (env' : Env), Stp M n H ow H' ow' → StOk K H' ow' σ env' → Out M env env' → ks.length = vs.length → vs.length = ts.length → (∀ (j : Nat) (v : V) (t : T), vs[j]? = some v → ts[j]? = some t → Tq K H' ow' (.tm (n + j)) v t) → Q ks ts env' → Qv ((ks.map kV).zip vs) H') ∧ Xk K W M σ H n ow env E
structure QPT (X : Cx) (W : WX) (M : List Nat) (pos : Pos) (ks : List (Option Expr)) (vs : List Expr) (q : SemPT) : Prop where
  run : ∃ trs, PPs X pos ks vs trs ∧ ∀ σ H Qv, tPT X.K W M q σ H Qv → tPairs trs σ H Qv
section
variable {X : Cx} {W : WX} {M Ma Mb Mc : List Nat} {o e f : Expr} {ks : List (Option Expr)} {vs : List Expr} {qk qv : SemE} {qr : SemPT} {pos : Pos}
end
section
variable {X : Cx} {W : WX} {M Ma Mb IO : List Nat} {e o ix : Expr} {q qi : SemE} {pa : SemP} {pos tpos : Pos}
end
end QV

set_option Elab.async false
set_option linter.all false
set_option maxRecDepth 100000
set_option maxHeartbeats 2000000
namespace L2
open PySem PySem.Spec PyProof.Rows
section
variable {κ : Type} [DecidableEq κ]
end
section
variable {X : Cx}
end
end L2

set_option Elab.async false
set_option linter.all false
set_option maxRecDepth 100000
set_option maxHeartbeats 2000000
namespace QV
open PySem PySem.Spec PyProof.Rows L2
open Classical in
section
variable {X : Cx} {W : WX} {M : List Nat} {e : Expr} {root : Option Nat} {pa : SemP} {pos p : Pos}
end
end QV

set_option Elab.async false
set_option linter.all false
set_option maxRecDepth 100000
set_option maxHeartbeats 2000000
namespace QV
open PySem PySem.Spec PyProof.Rows L2
section
variable {K : PySem.W.Frag} {H : Hp} {ow : Ow}
end
section
variable {X : Cx} {W : WX} {M : List Nat} {e : Expr} {pa : SemP} {root : Option Nat} {p pos : Pos}
end
section
variable {X : Cx} {W : WX} {Ma Mb : List Nat} {o e : Expr} {pa : SemP} {q : SemE} {apos cpos : Pos}
end
end QV

set_option Elab.async false
set_option linter.all false
set_option maxRecDepth 100000
set_option maxHeartbeats 2000000
namespace QV
open PySem PySem.Spec PyProof.Rows L2
theorem Sub.one {K : PySem.W.Frag} {H : Hp} {ow : Ow} {l : Lab} {v0 v : V} {k : Kd} {ts : List T} {t : T} {j : Nat} (s : Sub K H ow l v0 (.nd k ts) [j] v t) : ∃ a dx vs, v0 = .ref a ∧ Cell H a dx k vs ∧ vs[j]? = some v ∧ ts[j]? = some t := by
  cases s with
  | cons c f e1 e2 s =>
    cases s
    exact ⟨_, _, _, rfl, c, e1, e2⟩
section
variable {X : Cx} {W : WX} {Ma Mb Mc : List Nat} {e o o2 : Expr} {pa pb : SemP} {q : SemE}
end
end QV

set_option Elab.async false
set_option linter.all false
set_option maxRecDepth 100000
set_option maxHeartbeats 2000000
namespace QV
open PySem PySem.Spec PyProof.Rows L2
section
variable {X : Cx} {W : WX} {M : List Nat} {e : Expr} {pa : SemP} {root : Option Nat} {p pos : Pos}
end
end QV

set_option Elab.async false
set_option linter.all false
set_option maxRecDepth 1000000
set_option maxHeartbeats 2000000
namespace QV
open PySem
end QV

set_option Elab.async false
set_option linter.all false
set_option maxRecDepth 100000
set_option maxHeartbeats 2000000
namespace QV
open PySem PySem.Spec PyProof.Rows L2
abbrev Fx := PySem.W.Frag → Bool
def obsX (fa : List Fx) (fn : List He.FnD) (K : PySem.W.Frag) : He.Al := ((fa.all fun f => f K) && fn.all fun d => (He.Fa.code d.at_ d.qual).ok K, fn.map fun d => He.fnObs K d.at_)
def SaysX (fa : List Fx) (fn : List He.FnD) (K : PySem.W.Frag) : Prop := obsX fa fn K = He.valE fn
section
variable {fa : List Fx} {fn : List He.FnD} {K : PySem.W.Frag}
theorem SaysX.all (c : SaysX fa fn K) : (fa.all fun f => f K) = true := (He.ba (show ((fa.all fun f => f K) && fn.all fun d => (He.Fa.code d.at_ d.qual).ok K) = true from congrArg (fun z : He.Al => z.1) c)).1
end
end QV

set_option Elab.async false
set_option linter.all false
set_option maxRecDepth 100000
set_option maxHeartbeats 2000000
namespace QV
open PySem PySem.Spec PyProof.Rows L2
end QV

set_option Elab.async false
set_option linter.all false
set_option maxRecDepth 100000
set_option maxHeartbeats 2000000
namespace QV
open PySem PySem.Spec PyProof.Rows L2
section
variable {K : PySem.W.Frag} {H : Hp} {ow : Ow} {σ : L2.St} {env : Env} {i : Nat} {v0 v : V} {t0 : T} {p : List Nat} {ds : List D} {l : Lab}
end
section
variable {X : Cx} {W : WX} {M : List Nat} {e : Expr} {pa : SemP} {x : Str} {pos : Pos}
end
mutual
def okE : D → Bool
  | .nd .tup ds => okEs ds
  | .nd .lst [] => true
  | .nd .lst (d :: ds) => flD0 d && okEs (d :: ds)
  | d => flD0 d
def okEs : List D → Bool
  | [] => true
  | d :: ds => okE d && okEs ds
end
mutual
def okET : T → Bool
  | .fz d => okE d
  | .ow _ ds => okEs ds
  | .nd _ ts => okETs ts
def okETs : List T → Bool
  | [] => true
  | t :: ts => okET t && okETs ts
end
def badE (o : HO) : Prop := ∃ (a : Addr) (vs : List V), o = .lst (.ref a :: vs)
section
variable {K : PySem.W.Frag} {B B' : Hp}
mutual
theorem rp_keepE (e : ∀ a o, B a = some o → ¬ badE o → B' a = some o) : ∀ {v : V} {d : D}, Rp K B v d → okE d = true → Rp K B' v d
  | _, _, .non, _ => .non
  | _, _, .bl b, _ => .bl b
  | _, _, .int i, _ => .int i
  | _, _, .str x, _ => .str x
  | _, _, .scr _, h => by simp [okE, flD0] at h
  | _, _, .exc0 _ _, h => by simp [okE, flD0] at h
  | _, _, .exc1 _ _ _, h => by simp [okE, flD0] at h
  | _, _, .tup c z r, h => .tup (e _ _ c fun ⟨_, _, q⟩ => nomatch q) z (rps_keepE e r (by simpa [okE] using h))
  | _, _, .cell (k := k) (vs := vs) (ds := ds) hk c r, h => by
    cases k with
    | lst =>
      have hb : ¬ badE (.lst vs) := fun ⟨a0, vs0, q⟩ => by
        have q : vs = .ref a0 :: vs0 := by cases q; rfl
        subst q
        cases r with
        | cons r0 rs =>
          simp only [okE, Bool.and_eq_true] at h
          exact rp_nref r0 h.1 a0 rfl
      refine .cell hk ⟨e _ _ c.at_ hb, c.sz, trivial⟩ (rps_keepE e r ?_)
      cases ds with
      | nil => rfl
      | cons d ds => simp only [okE, Bool.and_eq_true] at h; exact h.2
    | tup => exact absurd rfl hk
    | dK ks => simp [okE, flD0] at h
    | dT ks => simp [okE, flD0] at h
    | lkT o ks => simp [okE, flD0] at h
    | lsA b => simp [okE, flD0] at h
    | ins C ks => simp [okE, flD0] at h
theorem rps_keepE (e : ∀ a o, B a = some o → ¬ badE o → B' a = some o) : ∀ {vs : List V} {ds : List D}, Rps K B vs ds → okEs ds = true → Rps K B' vs ds
  | _, _, .nil, _ => .nil
  | _, _, .cons r s, h => by
    simp only [okEs, Bool.and_eq_true] at h
    exact .cons (rp_keepE e r h.1) (rps_keepE e s h.2)
end
mutual
theorem Tp.carE {H H' : Hp} {ow ow' : Ow} {l l' : Lab} (e : ∀ a o, Bs H ow a = some o → ¬ badE o → Bs H' ow' a = some o) : ∀ {v : V} {t : T} {S : Addr → Prop}, okET t = true → (∀ a o, S a → H a = some o → ow a = l → H' a = some o ∧ ow' a = l') → Tp K H ow l v t S → Tp K H' ow' l' v t S
  | _, _, _, h, _, .fz r => .fz (rp_keepE e r (by simpa [okET] using h))
  | _, _, _, h, k, .ow c f r => .ow (c.at_same fun b o fb q => (k b o fb q (f b fb)).1) (fun b fb => let ⟨o, q⟩ := c.there fb; (k b o fb q (f b fb)).2) (rps_keepE e r (by simpa [okET] using h))
  | _, _, _, h, k, .nd c f r => .nd (c.at_same fun b o fb q => (k b o (.inl fb) q (f b fb).1).1)
      (fun b fb => let ⟨o, q⟩ := c.there fb; ⟨(k b o (.inl fb) q (f b fb).1).2, (f b fb).2⟩) (Tps.carE e (by simpa [okET] using h) (fun b o s => k b o (.inr s)) r)
theorem Tps.carE {H H' : Hp} {ow ow' : Ow} {l l' : Lab} (e : ∀ a o, Bs H ow a = some o → ¬ badE o → Bs H' ow' a = some o) : ∀ {v : List V} {t : List T} {S : Addr → Prop}, okETs t = true → (∀ a o, S a → H a = some o → ow a = l → H' a = some o ∧ ow' a = l') → Tps K H ow l v t S → Tps K H' ow' l' v t S
  | _, _, _, _, _, .nil => .nil
  | _, t :: ts, _, h, k, .cons r s d => by
    have h' : okET t = true ∧ okETs ts = true := by simpa [okETs] using h
    exact .cons (Tp.carE e h'.1 (fun b o q => k b o (.inl q)) r) (Tps.carE e h'.2 (fun b o q => k b o (.inr q)) s) d
end
end
open Classical in
noncomputable def labX (io cs : List Nat) (C : Addr → Prop) (ow : Ow) : Ow := fun a => if C a then .base else labIn io cs (ow a)
open Classical in
noncomputable def labBX (io cs : List Nat) (m : Nat) (C : Addr → Prop) (ow owc : Ow) : Ow := fun a => if C a ∧ owc a = .base then ow a else labBack io cs m (ow a) (owc a)
section
variable {X : Cx} {W : WX} {M : List Nat} {k : Nat} {f : Addr} {fd : FuncData} {ps : List Str} {io cs : List Nat} {spec : SemF} {ks : List (Option Nat)} {e : Expr} {es : List Expr} {qs : SemD} {x : Str} {p pos : Pos}
end
section
variable {X : Cx} {W : WX} {M Mb : List Nat} {k : Nat} {es : List Expr} {qs : SemAT} {x : Str} {pos : Pos}
end
end QV

set_option Elab.async false
set_option linter.all false
set_option maxRecDepth 100000
set_option maxHeartbeats 4000000
namespace PySem
open Sem (wp)
set_option maxHeartbeats 1000000 in
theorem meets_enumerate_new1B {v : Value} {o : Obj} {H : Heap → Prop} (B : Begins v o H) :
    Meets (Builtin.«enumerate.__new__» ⟨[.type "enumerate", v], []⟩) (fun _ R s => H s.heap ∧
      R (.ok (.ret (.ref (s.heap.push o).objs.size))) { s with heap := (s.heap.push o).push { cls := .type "enumerate", data := .fields #[.none, .bool false, .ref s.heap.objs.size, rawInt 0, .none, .none] } }) :=
  .of_wp fun prog w A R s h => by
    obtain ⟨hp, g, d, tk, os⟩ := s; obtain ⟨h1, h⟩ := h
    have hsub := sub_enumerate
    have q1 : ∀ {A' : Around} {E : Value → Shared → Prop} {Q : Value → Shared → Prop}, Q (.ref hp.objs.size) ⟨hp.push o, g, d, tk, os⟩ → wpAny (model prog w) A' (pyIter v) Q E ⟨hp, g, d, tk, os⟩ :=
      fun q => B.iter prog w _ _ ⟨hp, g, d, tk, os⟩ _ h1 q
    wp_walk using q1
    refine wpAny_stack_any fun st => wpAny_pure ?_
    split
    · rename_i c _ _ _ _ _
      cases (c == Value.type "enumerate")
      · wp_walk using q1
        exact ⟨_, rfl, h⟩
      · wp_walk using q1
        exact ⟨_, rfl, h⟩
    · wp_walk using q1
      exact ⟨_, rfl, h⟩
theorem enum_begins1 {prog : Program} {w : World} {A : Around} {E : Value → Shared → Prop} {s : Shared} {v : Value} {o : Obj} {H : Heap → Prop} {Q : Value → Shared → Prop} (B : Begins v o H) (h1 : H s.heap)
    (h : ∀ h', IsEnum h' (s.heap.objs.size + 1) s.heap.objs.size 0 .none → h'.get? s.heap.objs.size = some o → h'.objs.size = s.heap.objs.size + 2 →
      (∀ b o, s.heap.get? b = some o → h'.get? b = some o) → Q (.ref (s.heap.objs.size + 1)) { s with heap := h' }) :
    wpAny (model prog w) A (call (.type "enumerate") [v]) Q E s := by
  refine callType_new F.called_enumerate (by decide) (F.typeCall_enumerate_1 _) (F.newCall_enumerate_1 _) (fun obj => F.args_object_init_2 obj _) F.entry_enumerate_new
    (meets_enumerate_new1B B) ⟨h1, ?_⟩
  have hz : (s.heap.push o).objs.size = s.heap.objs.size + 1 := Heap.size_push ..
  show _ ∧ _
  rw [hz]
  have he : IsEnum ((s.heap.push o).push { cls := .type "enumerate", data := .fields #[.none, .bool false, .ref s.heap.objs.size, rawInt 0, .none, .none] }) (s.heap.objs.size + 1) s.heap.objs.size 0 .none := by
    have := Heap.get?_push_size (s.heap.push o) (o := { cls := .type "enumerate", data := .fields #[.none, .bool false, .ref s.heap.objs.size, rawInt 0, .none, .none] }) rfl
    rw [hz] at this; exact this
  refine ⟨⟨_, he, rfl⟩, h _ he (Heap.get?_push_of_some _ (Heap.get?_push_size _ B.free)) (by rw [Heap.size_push, hz]) fun b o x => Heap.get?_push_of_some _ (Heap.get?_push_of_some _ x)⟩
end PySem
namespace L2
open PySem PySem.Spec PyProof.Rows
def IteT (K : PySem.W.Frag) (a : Addr) : It :=
  ⟨fun i H => ∃ (xs : List V) (x : V), SqT K H a xs ∧ xs[i]? = some x, fun i H v H' => ∃ T x, v = .ref T ∧ H T = none ∧ H' = upd H T (.tup [.int (i : Nat), x]) ∧ ∀ xs, SqT K H a xs → xs[i]? = some x, fun i H => ∃ xs : List V, SqT K H a xs ∧ xs.length ≤ i⟩
theorem enumT_end {prog : Program} {w : World} {A : Around} {E : Value → Shared → Prop} {s : Shared} {e it l : Addr} {c : Int} {i : Nat} {items : Array Value} {old : Value} {Q : Option Value → Shared → Prop} (hh : A.handled = none)
    (he : IsEnum s.heap e it c old) (hit : s.heap.IsTupleIter it l i) (hl : s.heap.IsTuple l items) (hx : items[i]? = none)
    (hQ : ∀ h', Heap.ExtBut it s.heap h' → Q none { s with heap := h' }) : wpAny (model prog w) A (pyNext (.ref e)) Q E s := by
  have hT : s.TypeIs (.ref e) "enumerate" := ⟨_, he, rfl⟩
  unfold pyNext
  refine wpAny_bind (wpAny_attempt (wpAny_callSpecial?_slot (name := Str.ofString "__next__") hT F.slot_enumerate_next
    (wpAny_call_entry F.slot_enumerate_next hT F.entry_enumerate_next ?_ (F.args_enumerate_next_1 _))))
  show wpAny _ _ (field (.ref e) 2 >>= _) _ _ _
  refine wpAny_bind (wpAny_field he rfl (x := .ref it) rfl ?_)
  refine wpAny_bind (wpAny_nextOf_tuple_end hh hit hl hx fun h' x he' hx' => ?_)
  obtain ⟨o, ho, hc⟩ := hx'
  refine wpAny_bind (wpAny_isInstance (T := "StopIteration") (b := true) ⟨o, ho, hc⟩ isSubtype_stop ?_)
  exact wpAny_pure (hQ _ he')
theorem turn_enumT {P : Program} {w : World} {K : PySem.W.Frag} {elts : List Expr} {kk : Nat} {tpos : Pos} (a e it : Addr) :
    Turn P w K (.Tuple elts kk tpos) (IteT K a) [e, it] e (fun i h => (∃ old, IsEnum h e it ((i : Nat) : Int) old) ∧ h.IsTupleIter it a i ∧ e ≠ it) where
  mem := by simp
  obj := fun i h st b hb => by
    obtain ⟨⟨old, he⟩, ⟨o, ho, hc, hd⟩, _⟩ := st
    have e' : b = e ∨ b = it := by simpa using hb
    rcases e' with z | z
    · rw [z]; exact ⟨_, he, fun v q => nomatch q⟩
    · rw [z]; exact ⟨o, ho, fun v q => by rw [hd] at q; cases q⟩
  keep := fun i h h' st k => let ⟨⟨old, he⟩, hi, hne⟩ := st; ⟨⟨old, k e (by simp) _ he⟩, hi.at fun o q => k it (by simp) o q, hne⟩
  item := by
    intro X hP hw hK hc i pins s σ H E I hf st hg
    subst hP hw hK
    obtain ⟨⟨old, he⟩, hit, hne⟩ := st
    obtain ⟨xs, x, hq, hx⟩ := hg
    obtain ⟨its, rv, p, hz⟩ := I.tuple hq
    have p' : s.heap.IsTuple a its.toArray := p
    obtain ⟨u, hu, ru⟩ := rv.get hx
    have hel : e < s.heap.objs.size := Heap.lt_size he
    have hil : it < s.heap.objs.size := by obtain ⟨_, q, _⟩ := hit; exact Heap.lt_size q
    have hh : X.A.in1.handled = none := I.ok.hd hc
    have hna : a ≠ it := fun z => by
      subst z
      obtain ⟨o1, q1, c1, _⟩ := p'
      obtain ⟨o2, q2, c2, _⟩ := hit
      rw [q1] at q2
      cases q2
      rw [c1] at c2
      exact absurd c2 (by decide)
    have hea : e ≠ a := fun z => by
      subst z
      obtain ⟨o1, q1, c1, _⟩ := p'
      rw [show s.heap.get? e = some _ from he] at q1
      cases q1
      exact absurd (show (Value.type "enumerate") = .type "tuple" from c1) (by decide)
    have hi : i < its.toArray.size := by
      rw [List.size_toArray]
      exact (List.getElem?_eq_some_iff.mp hu).1
    refine wpAny_pyNext_enum_itemD (Draws.tuple hh it a hna its.toArray) he ⟨hit, p'⟩ hi hne (by simp [hne, hea]) fun x2 h' tk hP2 ho hst' hT hsz hk => ?_
    have hx2 : x2 = u := by
      have : its.toArray[i]? = some u := by simpa using hu
      rw [this] at hP2
      exact (Option.some.inj hP2).symm
    subst hx2
    refine ⟨_, rfl, wpAny_letOwnedTupleGo_enum (s := { s with heap := h', toks := tk + 1 }) ho fun h'' he' sb => ?_⟩
    have hT2 : h''.get? s.heap.objs.size = some { cls := .type "tuple", data := .seq #[.int (i : Nat) tk, x2] } := (sb.2 _ (Nat.ne_of_gt hel)).trans hT
    have new : ObjOk X.prog X.w (upd H s.heap.objs.size (.tup [.int (i : Nat), x])) h'' s.heap.objs.size (.tup [.int (i : Nat), x]) :=
      ⟨by show 2 ≤ sizeLine; decide, [.int (i : Nat) tk, x2], .cons ⟨_, rfl⟩ (.cons ru .nil), ⟨_, hT2, rfl, _, rfl⟩⟩
    have I1 : Inv X pins σ (upd H s.heap.objs.size (.tup [.int (i : Nat), x])) { s with heap := h'', toks := tk + 1 } :=
      I.turnedNew (ch := [e, it]) (fun b ob hb q => (sb.2 b (fun z => hb (by simp [z]))).trans (hk b ob (fun z => hb (by simp [z])) (fun z => hb (by simp [z])) q)) hf (Nat.le_refl _) new
    refine ⟨.ref s.heap.objs.size, _, I1, rfl, ⟨_, x, rfl, I.hok.fresh (Nat.le_refl _), rfl, fun ys hy => by rw [I.tuple_inj hy hq]; exact hx⟩, ⟨⟨x2, ?_⟩, hst'.1.at fun o q => (sb.2 it (Ne.symm hne)).trans q, hne⟩, fun b hb => ?_⟩
    · have e1 : ((i + 1 : Nat) : Int) = (i : Int) + 1 := by omega
      rw [e1]; exact he'
    · have hb' : b < s.heap.objs.size := by
        have e' : b = e ∨ b = it := by simpa using hb
        rcases e' with z | z
        · rw [z]; exact hel
        · rw [z]; exact hil
      rw [upd_ne (Nat.ne_of_lt hb')]
      exact (hf b hb).1
  done := by
    intro X hP hw hK hc i pins s σ H E I hf st hg
    subst hP hw hK
    obtain ⟨⟨old, he⟩, hit, hne⟩ := st
    obtain ⟨xs, hq, hx⟩ := hg
    obtain ⟨its, rv, p, hz⟩ := I.tuple hq
    obtain ⟨f0, f1, f2, f3, f4, f5⟩ := hf it (by simp)
    have hl := rv.length
    exact enumT_end (I.ok.hd hc) he hit p (by simp; omega) fun h' eb => ⟨rfl, I.turned (t' := s.toks) (fun b o hb q => eb b o hb q) f0 f1 f3 f4 f5⟩
  self := fun A i s Q E st h => let ⟨⟨_, he⟩, _⟩ := st; wpAny_pyIter_enum he h
def iEnumT (K : PySem.W.Frag) (ta : TA) : TI := fun σ H R => ta σ H fun vs H1 => ∃ a xs, vs = [.ref a] ∧ SqT K H1 a xs ∧ R (IteT K a) H1
theorem pi_enumT {X : Cx} {e : Expr} {ta : TA} {p pos tpos : Pos} {elts : List Expr} {kk : Nat} (hg : Gl X "enumerate") (hm : X.mg "enumerate" = none) (ha : PA X [e] ta) (hs : starEach [e] X.env = [(false, eval e X.env)] := by rfl) :
    PI X (.Tuple elts kk tpos) (.Call (.Name "enumerate" p) [e] [] pos) (iEnumT X.K ta) := by
  refine ⟨fun pins s σ H R I h => ?_⟩
  refine Call_ (ld_blt I hg hm boot_enumerate (PyProof.Rows.callWith_type1 (thn (ha.run pos pins s σ H _ I h) fun us s1 ⟨vs, H1, I1, r1, q1⟩ => ?_) hs rfl))
  obtain ⟨a, xs, ex, hq, q⟩ := q1
  subst ex
  cases r1 with
  | cons r rr =>
    cases rr
    cases r
    obtain ⟨its, rv, p', hz⟩ := I1.tuple hq
    refine enum_begins1 (begins_tuple a its.toArray) p' fun h' he hit hsz hk => wpAny_pyIter_enum he ?_
    have I2 : Inv X pins σ H1 { s1 with heap := h' } := I1.kept (t' := s1.toks) hk
    refine ⟨s1.heap.objs.size + 1, [s1.heap.objs.size + 1, s1.heap.objs.size], _, _, H1, rfl, I2, turn_enumT a (s1.heap.objs.size + 1) s1.heap.objs.size, ⟨⟨.none, he⟩, ⟨_, hit, rfl, rfl⟩, Nat.succ_ne_self _⟩, fun b hb => ?_, q⟩
    have e' : b = s1.heap.objs.size + 1 ∨ b = s1.heap.objs.size := by simpa using hb
    have hle : s1.heap.objs.size ≤ b := by
      rcases e' with z | z
      · rw [z]; exact Nat.le_add_right _ _
      · rw [z]; exact Nat.le_refl _
    exact I1.fpOk hle (I1.hok.fresh hle)
end L2

namespace L2
open PySem PySem.Spec PyProof.Rows
def tGetKD (X : Cx) (d : Addr) (ty : TE) : TE := fun σ H Q => ty σ H fun y H2 => ∃ (z : Str) (r : Option Value), y = .str z ∧ PySem.W.nsIn X.K d z = some r ∧ ∃ v0 : V, RelV v0 (r.getD .none) ∧ Q v0 H2
theorem pe_getKD {X : Cx} {o e : Expr} {apos cpos : Pos} {d : Addr} {es : Array DictEntry} {n : Nat} {ty : TE} (D : KDict X.K X.w d es n) (ho : PE X o (tC (.ref d))) (he : PE X e ty) (m : M1 X o "get" apos e cpos) : PE X (.Call (.Attribute o "get" apos) [e] [] cpos) (tGetKD X d ty) := by
  refine ⟨fun pins s σ H Q I h => ?_⟩
  refine wpAny_Call_method m.base m.few m.line PySem.F.plainAttrs_dict PySem.F.slot_dict_get PySem.F.type_dict_get (thn (ho.run pins s σ H (fun x H1 => x = .ref d ∧ H1 = H) I ⟨rfl, rfl⟩) fun u s1 ⟨x, H1, I1, rx, ex, e1⟩ => ?_)
  subst ex e1
  obtain rfl : u = Value.ref d := rx
  have hm := PySem.W.mapOf_K (prog := X.prog) (w := X.w) I1.kIn D.at_ D.lit
  refine ⟨hm.typeIs, fun a e0 => ?_, ?_⟩
  · cases e0
    exact ⟨_, I1.kIn _ _ D.at_, rfl⟩
  rw [m.trees]
  refine Calls.callWith_builtin rfl (Calls.evalArgs_plain (Calls.spliced_cons (thn (he.run pins s1 σ H1 _ I1 h) fun iv s2 ⟨y, H2, I2, ry, z, r, ey, en, v0, rv, q2⟩ => Calls.spliced_nil ?_)))
  subst ey
  obtain ⟨t, rfl⟩ := ry
  have hm2 := PySem.W.mapOf_K (prog := X.prog) (w := X.w) I2.kIn D.at_ D.lit
  refine call_meetsIn PySem.F.slot_dict_get hm2.typeIs PySem.F.entry_dict_get (PySem.F.args_dict_get_2 _ _) (meets_dict_get (strKind X.prog X.w) d (PySem.strKind_is X.prog X.w z t) D.low) ⟨_, hm2, ?_⟩
  rw [PySem.W.find_K D.at_ en]
  exact ⟨v0, H2, I2.tok _, rv, q2⟩
end L2
namespace QV
open PySem PySem.Spec PyProof.Rows L2
section
variable {X : Cx} {W : WX} {M Ma Ml : List Nat} {e o : Expr} {q : SemE} {pa : SemP} {ra root : Option Nat} {x : Str} {p pos apos : Pos}
def splitG (a : Str) (t : T) (Q : T → Prop) : Prop := ∃ b : Str, t = .fz (.str b) ∧ (b.length == 0) = false ∧ a.length + 2 ≤ sizeLine ∧ Q (.ow .lst ((Txt.split a b).map .str))
theorem rps_strs {K : PySem.W.Frag} {B : Hp} : ∀ ys : List Str, Rps K B (ys.map V.str) (ys.map .str)
  | [] => .nil
  | y :: ys => .cons (.str y) (rps_strs ys)
theorem g_split {K : PySem.W.Frag} : Mt1 K (fun x xs H Q => ∃ a b, x = .str a ∧ xs = [.str b] ∧ (b.length == 0) = false ∧ a.length + 2 ≤ sizeLine ∧ rNewStrs (Txt.split a b) H Q) splitG := by
  intro H ow n x v t Q Qv rv ⟨b, e, h1, h2, q⟩ k
  subst e
  have r := rv.rd
  cases r
  have hl : (Txt.split x b).length ≤ sizeLine := Nat.le_trans (PyProof.Rows.split_le x b) h2
  refine ⟨x, b, rfl, rfl, h1, h2, fun p hp => ?_⟩
  exact k _ _ _ (Ow.put ow p (.tm n)) (Stp.new hp) (Tq.newL hp (by rw [List.length_map]; exact hl) (rps_strs _)) q
theorem q_split (ho : QE X W Ma o q) (he : QP X W Ml ra e pa) (hs : starEach [e] X.env = [(false, eval e X.env)] := by rfl) (hbase : attributeBase o "split" X.env (eval o X.env) = eval o X.env := by rfl) (hline : (apos.endLine == pos.line) = true := by rfl) :
    QE X W (Ma ++ Ml) (.Call (.Attribute o "split" apos) [e] [] pos) (sM1 q pa splitG) := q_m1 F.slot_str_split F.type_str_split mt_split g_split ho he hs hbase hline
def intSG (t : T) (Q : T → Prop) : Prop := ∃ (a : Str) (n : Int), t = .fz (.str a) ∧ PySem.intText? a = some n ∧ a.length ≤ 640 ∧ Q (.fz (.int n))
theorem g_intS {K : PySem.W.Frag} : Op1 K (fun x H Q => ∃ a n, [x] = [V.str a] ∧ PySem.intText? a = some n ∧ a.length ≤ 640 ∧ Q (.int n) H) intSG := by
  intro H ow n x t Q Qv rx ⟨a, m, e, h1, h2, q⟩ k
  subst e
  have r := rx.rd
  cases r
  exact ⟨a, m, rfl, h1, h2, k _ _ H ow Stp.refl (Tq.fz_.mpr (.int _)) q⟩
theorem q_intS (hg : Gl X "int") (hm : X.mg "int" = none) (ha : QP X W M root e pa) (hs : starEach [e] X.env = (false, eval e X.env) :: starEach [] X.env := by rfl) (hpl : (backTo pos (starEach [] X.env)).any (·.1) = false := by rfl) :
    QE X W M (.Call (.Name "int" p) [e] [] pos) (s1 pa intSG) := q_ty1 call_int_str g_intS hg hm (by decide +kernel) ha (by decide) (by decide) hs hpl
theorem itd_enumT {K : PySem.W.Frag} {H : Hp} {ow : Ow} {a : Addr} {vs : List V} {ds : List D} (st : ∀ {H' : Hp} {ow' : Ow}, Fs H ow H' ow' → SqT K H' a vs) (hz : vs.length ≤ sizeLine) (r : Rps K (Bs H ow) vs ds) : ItD K H ow (IteT K a) (enumD ds) := by
  refine ⟨fun i d H' ow' x e => ?_, fun i d H' ow' y H2 x e q => ?_, fun H' ow' x => ⟨vs, st x, by rw [enumD_len]; exact Nat.le_of_eq r.len⟩, by rw [enumD_len, ← r.len]; exact hz⟩
  · obtain ⟨e', e1, _⟩ := enumD_get e
    obtain ⟨v, e2, _⟩ := r.get e1
    exact ⟨vs, v, st x, e2⟩
  · obtain ⟨Tt, v, rfl, hn, rfl, hy⟩ := q
    obtain ⟨e', e1, rfl⟩ := enumD_get e
    obtain ⟨w, e2, r1⟩ := r.get e1
    have ev := hy vs (st x)
    rw [e2] at ev
    cases ev
    refine ⟨Ow.put ow' Tt .base, Ext.new hn, ?_⟩
    refine .tup (by rw [bs_of put_same, upd_same]) (by rw [sizeLine_eq]; show (2 : Nat) ≤ 16777216; decide) (.cons (.int _) (.cons ?_ .nil))
    exact (r1.mono x.bs).mono (Stp.bs (M := []) (n := 0) (Stp.new hn))
def strIG (t : T) (Q : T → Prop) : Prop := ∃ i : Int, t = .fz (.int i) ∧ i.natAbs.log2 < 1920 ∧ Q (.fz (.str (toString i)))
theorem g_strI {K : PySem.W.Frag} : Op1 K (fun x H Q => ∃ i, [x] = [V.int i] ∧ i.natAbs.log2 < 1920 ∧ Q (.str (toString i)) H) strIG := by
  intro H ow n x t Q Qv rx ⟨i, e, h, q⟩ k
  subst e
  have r := rx.rd
  cases r
  exact ⟨i, rfl, h, k _ _ H ow Stp.refl (Tq.fz_.mpr (.str _)) q⟩
def twD (lo : Int) (n : Nat) : List D := (List.range n).map fun k => D.int (lo + (k : Nat) * 2)
theorem twD_len {lo : Int} {n : Nat} : (twD lo n).length = n := by unfold twD; rw [List.length_map, List.length_range]
theorem twD_get {lo : Int} {n i : Nat} {d : D} (h : (twD lo n)[i]? = some d) : i < n ∧ d = .int (lo + (i : Nat) * 2) := by
  unfold twD at h
  rw [List.getElem?_map] at h
  by_cases hi : i < n
  · rw [List.getElem?_range hi] at h
    cases h
    exact ⟨hi, rfl⟩
  · rw [List.getElem?_eq_none (by simpa using hi)] at h
    cases h
theorem itd_tw {K : PySem.W.Frag} {H : Hp} {ow : Ow} {lo : Int} {n : Nat} (hz : n ≤ sizeLine) : ItD K H ow (Itc lo 2 n) (twD lo n) :=
  ⟨fun i d H' ow' x e => (twD_get e).1, fun i d H' ow' y H2 x e q => by
    obtain ⟨rfl, rfl⟩ := q
    rw [(twD_get e).2]
    exact ⟨ow', Ext.refl, .int _⟩, fun H' ow' x => Nat.le_of_eq twD_len.symm, by rw [twD_len]; exact hz⟩
theorem rgc_two {i j : Int} (ha : -(2 ^ 62) ≤ i) (ha' : i < 2 ^ 62) (hb : -(2 ^ 62) ≤ j) (hb' : j < 2 ^ 62) : RgC i j 2 ((j - i + 1) / 2).toNat := by
  refine ⟨by decide, by decide, ?_, ?_⟩
  · unfold Builtin.Range.small Builtin.Range.rangeSize
    simp only [Builtin.Range.rangeFitsLong, Bool.and_eq_true, Bool.or_eq_true, decide_eq_true_eq, beq_iff_eq, show ((2 : Int) > 0) by decide, if_true]
    split <;> omega
  · unfold Builtin.Range.rangeSize
    rw [if_pos (by decide)]
    split <;> omega
def iTw (qa qb qc : SemE) : SemI := fun env Q E => qa env (fun t env1 => qb env1 (fun u env2 => qc env2 (fun w env3 => match t, u, w with
  | .fz (.int i), .fz (.int j), .fz (.int c) => c = 2 ∧ -(2 ^ 62) ≤ i ∧ i < 2 ^ 62 ∧ -(2 ^ 62) ≤ j ∧ j < 2 ^ 62 ∧ j - i ≤ sizeLine ∧ Q (twD i ((j - i + 1) / 2).toNat) env3
  | _, _, _ => False) E) E) E
theorem i_tw {Mb Mc : List Nat} {a b c tg : Expr} {qa qb qc : SemE} (hg : Gl X "range") (hm : X.mg "range" = none) (ha : QE X W Ma a qa) (hb : QE X W Mb b qb) (hc : QE X W Mc c qc) (hs : starEach [a, b, c] X.env = (false, eval a X.env) :: starEach [b, c] X.env := by rfl)
    (hs2 : starEach [b, c] X.env = (false, eval b X.env) :: starEach [c] X.env := by rfl) (hs3 : starEach [c] X.env = (false, eval c X.env) :: starEach [] X.env := by rfl) (hpl : (backTo pos (starEach [b, c] X.env)).any (·.1) = false := by rfl) :
    QI X W (Ma ++ (Mb ++ Mc)) tg (.Call (.Name "range" p) [a, b, c] [] pos) (iTw qa qb qc) :=
  ⟨PI_imp (pi_range3 hg hm (pa_cons ha.run (pa_cons hb.run (pa_cons hc.run pa_nil hs3) hs2) hs) hs hpl) fun σ H R ⟨n, ow, env, Q, E, s, hq, k, x⟩ => ⟨n, ow, env, _, E, s, hq, fun v t H1 ow1 env1 y1 s1 o1 r1 z1 =>
    ⟨n + 1, ow1, env1, _, E, s1, z1, fun w u H2 ow2 env2 y2 s2 o2 r2 z2 =>
      ⟨n + 1 + 1, ow2, env2, _, E, s2, z2, fun w3 u3 H3 ow3 env3 y3 s3 o3 r3 z3 => by
        split at z3
        · rename_i i j c
          have e1 := Tq.rd r1
          cases e1
          have e2 := Tq.rd r2
          cases e2
          have e3 := Tq.rd r3
          cases e3
          obtain ⟨rfl, h1, h2, h3, h4, h5, z3⟩ := z3
          exact ⟨i, j, 2, _, rfl, rgc_two h1 h2 h3 h4, k _ _ H3 ow3 env3 (y1.trans (y2.trans y3 subl subr (Nat.le_refl _) (Nat.le_succ _)) subl subr (Nat.le_refl _) (Nat.le_succ _)) s3 (o1.trans (o2.trans o3 subl subr) subl subr) (itd_tw (by omega)) z3⟩
        · exact z3.elim, (x.step y1 o1 subl subr (Nat.le_refl _) (Nat.le_succ _)).step y2 o2 subl subr (Nat.le_refl _) (Nat.le_succ _)⟩, fun r d H' ow' env' y s' o => (x.step y1 o1 subl subr (Nat.le_refl _) (Nat.le_succ _)) r d H' ow' env' (y.mono subl (Nat.le_refl _)) s' (o.mono subl)⟩, fun r d H' ow' env' y s' o => x r d H' ow' env' (y.mono subl (Nat.le_refl _)) s' (o.mono subl)⟩⟩
structure KTab (K : PySem.W.Frag) (w : World) (mg : Str → Option Value) (x : Str) (tab : List (Str × List Str)) (ta : Str → Addr) : Prop where
  dict : ∃ (d : Addr) (es : Array DictEntry) (n : Nat), mg x = some (.ref d) ∧ KDict K w d es n ∧ (∀ k xs, (k, xs) ∈ tab → PySem.W.nsIn K d k = some (some (.ref (ta k)))) ∧ (∀ k, (∀ xs, (k, xs) ∉ tab) → PySem.W.nsIn K d k = some none)
  tup : ∀ k xs, (k, xs) ∈ tab → ∀ H : Hp, SqT K H (ta k) (xs.map V.str)
  len : ∀ k xs, (k, xs) ∈ tab → xs.length ≤ sizeLine
def kdL (a : Addr) : T := .fz (.exc a a none [] [])
def getKG (tab : List (Str × List Str)) (ta : Str → Addr) (t : T) (Q : T → Prop) : Prop := ∃ z : Str, t = .fz (.str z) ∧ (∀ xs, (z, xs) ∈ tab → Q (kdL (ta z))) ∧ ((∀ xs, (z, xs) ∉ tab) → Q (.fz .non))
def sGetKD (tab : List (Str × List Str)) (ta : Str → Addr) (q : SemE) : SemE := fun env Q E => q env (fun t env' => getKG tab ta t fun w => Q w env') E
theorem q_getKD {tab : List (Str × List Str)} {ta : Str → Addr} (hg : Gl X x) (KT : KTab X.K X.w X.mg x tab ta) (he : QE X W M e q) (hd : (x == ("__debug__" : Str)) = false := by decide) (m : M1 X (.Name x p) "get" apos e pos := by exact ⟨rfl, rfl, rfl, rfl⟩) :
    QE X W M (.Call (.Attribute (.Name x p) "get" apos) [e] [] pos) (sGetKD tab ta q) :=
  let ⟨d, es, n, hm, D, h1, h2⟩ := KT.dict
  ⟨PE_imp (pe_getKD D (pe_glob (v := .ref d) hg hm rfl hd) he.run m) fun σ H Qv ⟨n, ow, env, Q, E, s, hq, k, xx⟩ => ⟨n, ow, env, _, E, s, hq, fun v t H' ow' env' y s' o r ⟨z, et, q1, q2⟩ => by
    subst et
    have r' := Tq.rd r
    cases r'
    by_cases hz : ∃ xs, (z, xs) ∈ tab
    · obtain ⟨xs, hz⟩ := hz
      exact ⟨z, _, rfl, h1 z xs hz, .ref (ta z), rfl, k _ _ H' ow' env' y s' o (Tq.fz_.mpr (.exc0 _ _)) (q1 xs hz)⟩
    · have hz' : ∀ xs, (z, xs) ∉ tab := fun xs h => hz ⟨xs, h⟩
      exact ⟨z, _, rfl, h2 z hz', .non, rfl, k _ _ H' ow' env' y s' o (Tq.fz_.mpr .non) (q2 hz')⟩, xx⟩⟩
def lenKG (tab : List (Str × List Str)) (ta : Str → Addr) (t : T) (Q : T → Prop) : Prop := ∃ k xs, (k, xs) ∈ tab ∧ t = kdL (ta k) ∧ Q (.fz (.int xs.length))
theorem g_lenK {K : PySem.W.Frag} {w : World} {mg : Str → Option Value} {tab : List (Str × List Str)} {ta : Str → Addr} (KT : KTab K w mg x tab ta) : Op1 K (fun x H Q => rLenAll K [x] H Q) (lenKG tab ta) := by
  intro H ow n v t Q Qv rx ⟨k, xs, hk, e, q⟩ kk
  subst e
  have r := rx.rd
  cases r
  refine .inl ⟨ta k, xs.map V.str, rfl, .inr (KT.tup k xs hk H), ?_⟩
  rw [List.length_map]
  exact kk _ _ H ow Stp.refl (Tq.fz_.mpr (.int _)) q
theorem q_lenKD {tab : List (Str × List Str)} {ta : Str → Addr} (KT : KTab X.K X.w X.mg x tab ta) (hg : Gl X "len") (hm : X.mg "len" = none) (ha : QP X W M root e pa) (hs : starEach [e] X.env = (false, eval e X.env) :: starEach [] X.env := by rfl) (hpl : (backTo pos (starEach [] X.env)).any (·.1) = false := by rfl) :
    QE X W M (.Call (.Name "len" p) [e] [] pos) (s1 pa (lenKG tab ta)) := q_b1 c_len (g_lenK KT) hg hm (by decide +kernel) ha (by decide) (by decide) hs hpl
def iEnumKD (tab : List (Str × List Str)) (ta : Str → Addr) (q : SemE) : SemI := fun env Q E => q env (fun t env1 => ∃ k xs, (k, xs) ∈ tab ∧ t = kdL (ta k) ∧ Q (enumD (xs.map .str)) env1) E
theorem i_enumKD {elts : List Expr} {kk : Nat} {tpos : Pos} {tab : List (Str × List Str)} {ta : Str → Addr} (KT : KTab X.K X.w X.mg x tab ta) (hg : Gl X "enumerate") (hm : X.mg "enumerate" = none) (h : QE X W M e q) (hs : starEach [e] X.env = [(false, eval e X.env)] := by rfl) : QI X W M (.Tuple elts kk tpos) (.Call (.Name "enumerate" p) [e] [] pos) (iEnumKD tab ta q) :=
  ⟨PI_imp (pi_enumT hg hm (pa_cons h.run pa_nil hs) hs) fun σ H R ⟨n, ow, env, Q, E, s, hq, k, xx⟩ => ⟨n, ow, env, _, E, s, hq, fun v t H' ow' env' y s' o r ⟨ky, xs, hk, et, z⟩ => by
    subst et
    have r' := Tq.rd r
    cases r'
    exact ⟨ta ky, xs.map V.str, rfl, KT.tup ky xs hk H', k _ _ H' ow' env' y s' o (itd_enumT (fun _ => KT.tup ky xs hk _) (by rw [List.length_map]; exact KT.len ky xs hk) (rps_strs _)) z⟩, xx⟩⟩
end
end QV

set_option Elab.async false
set_option linter.all false
set_option maxRecDepth 100000
set_option maxHeartbeats 4000000
namespace QV
open PySem PySem.Spec PyProof.Rows L2
abbrev TabY : Type := (PySem.W.Frag → Addr) × List Str
abbrev AlY : Type := List (Option (List (Option (Str × Int))))
def valY (ts : List TabY) (w : World) : AlY := ts.map fun t => some (He.keysIn w.params t.2)
def SaysY (fa : List Fx) (fn : List He.FnD) (ts : List TabY) (w : World) (K : PySem.W.Frag) : Prop := SaysX fa fn K ∧ (ts.map fun t => He.dicW K (t.1 K)) = valY ts w
def taK (K : PySem.W.Frag) (x k : Str) : Addr := match PySem.W.nsIn K (He.ga K x) k with
  | some (some (.ref a)) => a
  | _ => 0
def vstr : Value → Option Str
  | .str x _ => some x
  | _ => none
def tupNX (K : PySem.W.Frag) (a : Addr) (xs : List Str) : Bool := match K.lookup a with
  | some ⟨.type "tuple", _, .seq its _, _⟩ => decide (its.toList.map vstr = xs.map some)
  | _ => false
theorem vals_vstr : ∀ {us : List Value} {xs : List Str}, us.map vstr = xs.map some → Vals (xs.map V.str) us
  | [], [], _ => .nil
  | [], _ :: _, h => by cases h
  | _ :: _, [], h => by cases h
  | u :: us, x :: xs, h => by
    rw [List.map_cons, List.map_cons] at h
    injection h with h1 h2
    refine .cons ?_ (vals_vstr h2)
    unfold vstr at h1
    split at h1
    · rename_i y t
      cases h1
      exact ⟨t, rfl⟩
    · cases h1
theorem tupNX_of {K : PySem.W.Frag} {a : Addr} {xs : List Str} (q : tupNX K a xs = true) (hz : xs.length ≤ 16) (H : Hp) : SqT K H a (xs.map V.str) := by
  unfold tupNX at q
  split at q
  · rename_i d its n sl hl
    have e := of_decide_eq_true q
    have r := vals_vstr e
    refine .inr ⟨_, _, _, hl, rfl, rfl, ?_, r⟩
    have e2 : xs.length = its.size := by simpa using r.length
    rw [← e2, sizeLine_eq]
    omega
  · cases q
theorem dicW_none {K : PySem.W.Frag} {P : Params} {a : Addr} {ks : List Str} {k : Str} (h : He.dicW K a = some (He.keysIn P ks)) (hk : k ∉ ks) : PySem.W.nsIn K a k = some none := by
  unfold He.dicW at h
  unfold PySem.W.nsIn
  split at h
  · rename_i c es n sl hl
    rw [hl]
    split at h
    · have e := Option.some.inj h
      dsimp only
      have all : ∀ (l : List DictEntry) (ks : List Str), l.map He.keyOf = He.keysIn P ks → k ∉ ks → l.find? (·.key.isStr k) = none ∧ l.any (·.refKey) = false := by
        intro l
        induction l with
        | nil => intro ks _ _; exact ⟨rfl, rfl⟩
        | cons en r ih =>
          intro ks e hk
          cases ks with
          | nil => cases e
          | cons y ys =>
            have e' : He.keyOf en :: r.map He.keyOf = some (y, PyData.keyHash P y) :: He.keysIn P ys := e
            injection e' with e1 e2
            obtain ⟨f1, f2⟩ := ih ys e2 (fun z => hk (List.mem_cons_of_mem _ z))
            unfold He.keyOf at e1
            split at e1
            · rename_i x t hx
              have e3 := Option.some.inj e1
              obtain ⟨e4, _⟩ := Prod.mk.inj e3
              subst e4
              have hne : en.key.isStr k = false := by
                rw [hx]
                show (x == k) = false
                exact beq_eq_false_iff_ne.mpr fun z => hk (by rw [z]; exact List.mem_cons_self)
              refine ⟨?_, ?_⟩
              · rw [List.find?_cons, hne]; exact f1
              · rw [List.any_cons, f2, Bool.or_false]
                unfold DictEntry.refKey
                rw [hx]
            · cases e1
      obtain ⟨f1, f2⟩ := all _ _ e hk
      rw [f1]
      dsimp only
      rw [f2]
      rfl
    · cases h
  · cases h
section
variable {fa : List Fx} {fn : List He.FnD} {ts : List TabY} {w : World} {K : PySem.W.Frag}
theorem SaysY.tab (c : SaysY fa fn ts w K) (i : Nat) {t : TabY} (h : ts[i]? = some t) : He.dicW K (t.1 K) = some (He.keysIn w.params t.2) := by
  have e := c.2
  have e2 : (ts.map fun t => He.dicW K (t.1 K))[i]? = (valY ts w)[i]? := by rw [e]
  unfold valY at e2
  rw [List.getElem?_map, List.getElem?_map, h] at e2
  exact Option.some.inj e2
end
theorem ktab_of {K : PySem.W.Frag} {w : World} {h : Heap} {mg : Str → Option Value} {x : Str} {tab : List (Str × List Str)} (X : K.In h) (G : h.Ns mainGlobals mg) (a : PySem.W.nsIn K mainGlobals x = some (some (.ref (He.ga K x))))
    (hd : He.dicW K (He.ga K x) = some (He.keysIn w.params (tab.map (·.1)))) (hk : ∀ q, q ∈ tab → PySem.W.nsIn K (He.ga K x) q.1 = some (some (.ref (taK K x q.1)))) (ht : ∀ q, q ∈ tab → tupNX K (taK K x q.1) q.2 = true) (hz : ∀ q, q ∈ tab → q.2.length ≤ 16) : KTab K w mg x tab (taK K x) := by
  obtain ⟨es, n, D⟩ := He.dicW_ok hd
  refine ⟨⟨_, es, n, PySem.W.mg_of X G a, D, fun k xs h => hk (k, xs) h, fun k h => dicW_none hd fun z => ?_⟩, fun k xs h H => tupNX_of (ht _ h) (hz _ h) H, fun k xs h => by have h2 : xs.length ≤ 16 := hz _ h; rw [sizeLine_eq]; omega⟩
  obtain ⟨q, hq, e⟩ := List.mem_map.mp z
  exact h q.2 (by rw [← e]; exact hq)
theorem ktab_of2 {K : PySem.W.Frag} {w : World} {h : Heap} {mg : Str → Option Value} {x : Str} {tab : List (Str × List Str)} {d : Addr} {es : Array DictEntry} {n : Nat} (X : K.In h) (G : h.Ns mainGlobals mg) (a : PySem.W.nsIn K mainGlobals x = some (some (.ref d)))
    (kk : K.lookup d = some ⟨.type "dict", none, .dict es n, #[]⟩) (dk : es.toList.map He.keyOf = He.keysIn w.params (tab.map (·.1))) (sk : (d == sysModules) = false)
    (hk : ∀ q, q ∈ tab → ∃ v : Addr, PySem.W.nsIn K d q.1 = some (some (.ref v)) ∧ tupNX K v q.2 = true) (hz : ∀ q, q ∈ tab → q.2.length ≤ 16) : KTab K w mg x tab (taK K x) := by
  have eg : He.ga K x = d := by unfold He.ga; rw [a]
  have hd : He.dicW K (He.ga K x) = some (He.keysIn w.params (tab.map (·.1))) := by
    rw [eg]
    unfold He.dicW
    rw [kk]
    dsimp only
    rw [sk, dk]
    rfl
  have ht : ∀ {k : Str} {v : Addr}, PySem.W.nsIn K d k = some (some (.ref v)) → taK K x k = v := fun {k v} e => by unfold taK; rw [eg, e]
  refine ktab_of X G (by rw [eg]; exact a) hd (fun q hq => ?_) (fun q hq => ?_) hz
  · obtain ⟨v, e, _⟩ := hk q hq
    rw [eg, e, ht e]
  · obtain ⟨v, e, e2⟩ := hk q hq
    rw [ht e]
    exact e2
end QV

set_option Elab.async false
set_option linter.all false
set_option maxRecDepth 100000
set_option maxHeartbeats 4000000
namespace QV
open PySem PySem.Spec PyProof.Rows L2
section
variable {X : Cx} {W : WX} {M : List Nat} {root : Option Nat} {pa : SemP}
def tLenSetP (K : PySem.W.Frag) (ta : TE) : TE := fun σ H Q => ta σ H fun x H1 => ∃ (l : Addr) (ks : List (Addr × List Int)), x = V.ref l ∧ SqL K H1 l (ks.map fun p => V.ref p.1) ∧ (∀ p, p ∈ ks → SqT K H1 p.1 (p.2.map V.int)) ∧ ks.length < 64 ∧
  ∀ L : List (Addr × List Int), (∀ p, p ∈ L → p ∈ ks) → (∀ p, p ∈ ks → p.2 ∈ L.map (·.2)) → (L.map (·.2)).Nodup → Q (.int L.length) H1
theorem pe_lenSetP {a : Expr} {ta : TE} {p p2 q pos : Pos} (hc : X.calm = true) (hu : X.A.units + 65 < cLine) (hg : Gl X "len") (hm : X.mg "len" = none) (hg2 : Gl X "set") (hm2 : X.mg "set" = none) (ha : PE X a ta)
    (na : starEach [a] X.env = (false, eval a X.env) :: starEach [] X.env := by rfl) : PE X (.Call (.Name "len" p) [.Call (.Name "set" p2) [a] [] q] [] pos) (tLenSetP X.K ta) := by
  refine ⟨fun pins s σ H Q I h => ?_⟩
  refine Call_ (ld_blt I hg hm PySem.boot_len ?_)
  refine PyProof.Rows.callWith_builtin1 (PyProof.Rows.args_cons ?_ rfl) rfl rfl
  refine Call_ (ld_blt I hg2 hm2 PyProof.Rows.boot_set ?_)
  refine PyProof.Rows.callWith_type1 (PyProof.Rows.args_cons (thn (ha.run pins s σ H _ I h) fun v s1 ⟨x, H1, I1, r1, q1⟩ => PyProof.Rows.args_nil ?_) na) na rfl
  obtain ⟨l, ks, rfl, hl, hk, hf, q1⟩ := q1
  cases r1
  obtain ⟨its, rv, pl, hz⟩ := I1.list hl
  refine call_set_tups (P := X.prog) (w := X.w) ks (I1.ok.hd hc) pl.isList (by simpa using refs_of_vals rv) (fun p hp => I1.isT (hk p hp)) hf (by omega) fun h' tk L es ep t R g k => ?_
  have I2 : Inv X pins σ H1 { s1 with heap := h', toks := tk } := I1.kept k
  refine PyProof.Rows.args_nil ?_
  have hsz : es.size = L.length := SetTR.size (s := { s1 with heap := h', toks := tk }) R
  have hfit : t.fits es.size = true := SetTR.fits (s := { s1 with heap := h', toks := tk }) R
  obtain ⟨o, ho, hex, hd⟩ := R.ob
  have hfew := R.few
  refine call_len_set ho hex hd hfit (by rw [hsz]; omega) ⟨.int L.length, H1, I2.tok _, ⟨_, by rw [hsz]⟩, q1 L (fun p hp => List.mem_of_mem_take (g.sub p hp)) (fun p hp => g.all p (by rw [List.take_length]; exact hp)) R.nd⟩
def lenSetPG (t : T) (Q : T → Prop) : Prop := ∃ ps : List (Int × Int), shL t = some (ps.map pr2D) ∧ ps.length < 64 ∧ ∀ qs : List (Int × Int), qs.Nodup → (∀ p, p ∈ qs ↔ p ∈ ps) → Q (.fz (.int qs.length))
theorem q_lenSetP {e : Expr} {p p2 pos pos2 : Pos} (hc : X.calm = true) (hu : X.A.units + 65 < cLine) (hg : Gl X "len") (hm : X.mg "len" = none) (hg2 : Gl X "set") (hm2 : X.mg "set" = none) (ha : QP X W M root e pa)
    (na : starEach [e] X.env = (false, eval e X.env) :: starEach [] X.env := by rfl) : QE X W M (.Call (.Name "len" p) [.Call (.Name "set" p2) [e] [] pos2] [] pos) (s1 pa lenSetPG) :=
  ⟨PE_imp (pe_lenSetP hc hu hg hm hg2 hm2 ha.run na) fun σ H Qv ⟨n, ow, env, Q, E, s, hq, k, x⟩ => ⟨n, ow, env, _, E, s, hq, fun v t pt H' ow' env' y1 s' o r ⟨ps, e1, hl, z⟩ => by
    obtain ⟨a, vs, rfl, c, hz, rr⟩ := (r.ro s').lst e1
    obtain ⟨ks, rfl, h2, h3⟩ := pairs_of rr
    have hkl : ks.length = ps.length := by have := congrArg List.length h2; simpa using this
    have kp : ∀ q, q ∈ ks → ∃ x y, q.2 = [x, y] ∧ (x, y) ∈ ps := fun q hq' => by
      have : q.2 ∈ ps.map (fun p => [p.1, p.2]) := by rw [← h2]; exact List.mem_map.mpr ⟨q, hq', rfl⟩
      obtain ⟨w, hw, e⟩ := List.mem_map.mp this
      exact ⟨w.1, w.2, e.symm, hw⟩
    refine ⟨a, ks, rfl, .inl (.inl c), fun p hp => sqT_of (bs_some (h3 p hp)).2, by omega, fun L hs1 hs2 nd => ?_⟩
    have hB : ∀ {q : Addr × List Int}, q ∈ L → ∃ x y, q.2 = [x, y] := fun {q} hq' => let ⟨x, y, e, _⟩ := kp q (hs1 q hq'); ⟨x, y, e⟩
    have g0 : ∀ M : List (Addr × List Int), (∀ q, q ∈ M → ∃ x y, q.2 = [x, y]) → ∃ qs : List (Int × Int), M.map (·.2) = qs.map (fun p => [p.1, p.2]) := by
      intro M
      induction M with
      | nil => intro _; exact ⟨[], rfl⟩
      | cons q M ih =>
        intro hM
        obtain ⟨qs, e⟩ := ih fun q hq => hM q (List.mem_cons_of_mem _ hq)
        obtain ⟨x, y, e2⟩ := hM q (by simp)
        exact ⟨(x, y) :: qs, by rw [List.map_cons, List.map_cons, e, e2]⟩
    obtain ⟨qs, g1⟩ := g0 L fun q hq' => hB hq'
    have hlen : L.length = qs.length := by have := congrArg List.length g1; simpa using this
    have hnd : qs.Nodup := by
      have : (qs.map fun p => ([p.1, p.2] : List Int)).Nodup := by rw [← g1]; exact nd
      exact (List.pairwise_map.mp this).imp fun h e => h (by rw [e])
    have mem : ∀ w, w ∈ qs ↔ w ∈ ps := fun w => by
      constructor
      · intro hw
        have : ([w.1, w.2] : List Int) ∈ L.map (·.2) := by rw [g1]; exact List.mem_map.mpr ⟨w, hw, rfl⟩
        obtain ⟨q, hq', e⟩ := List.mem_map.mp this
        obtain ⟨x, y, e2, hw2⟩ := kp q (hs1 q hq')
        rw [e2] at e
        injection e with e3 e4
        injection e4 with e5 _
        have : w = (x, y) := Prod.ext e3.symm e5.symm
        rw [this]; exact hw2
      · intro hw
        have : ([w.1, w.2] : List Int) ∈ ks.map (·.2) := by rw [h2]; exact List.mem_map.mpr ⟨w, hw, rfl⟩
        obtain ⟨q, hq', e⟩ := List.mem_map.mp this
        have e : q.2 = [w.1, w.2] := e
        have h5 : [w.1, w.2] ∈ L.map (·.2) := by rw [← e]; exact hs2 q hq'
        rw [g1] at h5
        obtain ⟨w2, hw2, e6⟩ := List.mem_map.mp h5
        injection e6 with e3 e4
        injection e4 with e5 _
        have : w = w2 := Prod.ext e3.symm e5.symm
        rw [this]; exact hw2
    rw [hlen]
    exact k _ _ H' ow' env' y1 s' o (Tq.fz_.mpr (.int _)) (z qs hnd mem), x⟩⟩
end
def rInDT (K : PySem.W.Frag) : R2 := fun x y H Q => ∃ d ds, Dp K H x d ∧ Dp K H y (.tuple ds) ∧ SeqAt.shaped d = true ∧ SeqAt.shaped (.tuple ds) = true ∧ Q (.bl (ds.any fun z => PyData.eqv z d)) H
theorem op_inDT {X : Cx} (hu : X.A.units + 65 < cLine) : OpR X (compareOp .In) (rInDT X.K) := by
  intro pins s σ H x y v u Q I rx ry h
  obtain ⟨d, ds, hd, he, sd, se, q⟩ := h
  obtain ⟨as, r1⟩ := Dp.reads I d x v hd rx
  obtain ⟨bs, r2⟩ := Dp.reads I (.tuple ds) y u he ry
  exact SeqAt.in_tuple_reads r2 r1 (SeqAt.canLay_of_shaped se) (SeqAt.canLay_of_shaped sd) (room_in_shaped sd hu) ⟨.bl _, H, I, rfl, q⟩
def inDG (t u : T) (Q : T → Prop) : Prop := match u with
  | .fz (.nd .tup es) => (t.d.pl 63 = true ∧ Dspl 63 es = true) ∧ Q (.fz (.bl (es.any fun z => eqD z t.d)))
  | _ => False
theorem g_inDT {K : PySem.W.Frag} : Op2 K (rInDT K) inDG := by
  intro H ow n x y t u Q Qv rx ry h k
  unfold inDG at h
  split at h
  · rename_i es
    obtain ⟨hc, q⟩ := h
    have p1 : (D.nd .tup es).pl 64 = true := by simpa [D.pl] using hc.2
    have d1 := ry.rd.dp _ p1
    have s1 := D.pl_shaped p1 (Nat.le_refl _)
    refine ⟨t.d.py, Dspy es, rx.rd.dp _ hc.1, by simpa [D.py, T.d] using d1, D.pl_shaped hc.1 (by decide), by simpa [D.py, T.d] using s1, k _ _ H ow Stp.refl (Tq.fz_.mpr ?_) q⟩
    rw [pl_any hc.1 es hc.2]
    exact .bl _
  · exact h.elim
section
variable {X : Cx} {W : WX} {M Ma Mb : List Nat} {a b : Expr} {pa pb : SemP} {ra rb : Option Nat} {pos : Pos}
theorem q_inDT (hu : X.A.units + 65 < cLine) (ha : QP X W Ma ra a pa) (hb : QP X W Mb rb b pb) (hr : okR ra Mb = true := by decide) (hm : behindInMarks .In b = false := by rfl) : QE X W (Ma ++ Mb) (.Compare a [.In] [b] pos) (s2 pa pb inDG) := q_cmp (op_inDT hu) g_inDT ha hb hm hr
end
end QV

set_option Elab.async false
set_option linter.all false
set_option maxRecDepth 100000
set_option maxHeartbeats 2000000
namespace L2
open PySem PySem.Spec PyProof.Rows
section
variable {prog : Program} {w : World} {A : Around} {E : Value → Shared → Prop} {s : Shared}
end
section
variable {X : Cx} {pins : List (Addr × Obj)} {σ : St} {H : Hp} {s : Shared} {a : Addr} {kvs : List (List Key × V)} {A : Around} {E : Value → Shared → Prop}
end
end L2
namespace QV
open PySem PySem.Spec PyProof.Rows L2
section
variable {X : Cx} {W : WX} {M Ma Mb : List Nat} {a b : Expr} {pa pb : SemP} {ra rb : Option Nat} {pos : Pos}
end
end QV

set_option Elab.async false
set_option linter.all false
set_option maxRecDepth 100000
set_option maxHeartbeats 2000000
namespace QV
open PySem PySem.Spec PyProof.Rows L2
mutual
def tpD : D → Bool
  | .nd .tup ds => tpDs ds
  | d => flD0 d
def tpDs : List D → Bool
  | [] => true
  | d :: ds => tpD d && tpDs ds
end
section
variable {K : PySem.W.Frag} {B B' : Hp}
mutual
theorem rp_tp (e : ∀ a vs, B a = some (.tup vs) → B' a = some (.tup vs)) : ∀ {v : V} {d : D}, Rp K B v d → tpD d = true → Rp K B' v d
  | _, _, .non, _ => .non
  | _, _, .bl b, _ => .bl b
  | _, _, .int i, _ => .int i
  | _, _, .str x, _ => .str x
  | _, _, .scr _, h => by simp [tpD, flD0] at h
  | _, _, .exc0 _ _, h => by simp [tpD, flD0] at h
  | _, _, .exc1 _ _ _, h => by simp [tpD, flD0] at h
  | _, _, .tup c z r, h => .tup (e _ _ c) z (rps_tp e r (by simpa [tpD] using h))
  | _, _, .cell (k := k) hk c r, h => by
    cases k with
    | tup => exact absurd rfl hk
    | lst => simp [tpD, flD0] at h
    | dK ks => simp [tpD, flD0] at h
    | dT ks => simp [tpD, flD0] at h
    | lkT o ks => simp [tpD, flD0] at h
    | lsA b => simp [tpD, flD0] at h
    | ins C ks => simp [tpD, flD0] at h
theorem rps_tp (e : ∀ a vs, B a = some (.tup vs) → B' a = some (.tup vs)) : ∀ {vs : List V} {ds : List D}, Rps K B vs ds → tpDs ds = true → Rps K B' vs ds
  | _, _, .nil, _ => .nil
  | _, _, .cons r s, h => by
    simp only [tpDs, Bool.and_eq_true] at h
    exact .cons (rp_tp e r h.1) (rps_tp e s h.2)
end
end
section
variable {X : Cx} {W : WX} {M Ma Mb : List Nat} {k : Nat} {f : Addr} {fd : FuncData} {ps : List Str} {io cs : List Nat} {spec : SemF} {ks : List (Option Nat)} {e : Expr} {es : List Expr} {qs : SemD} {x : Str} {p pos : Pos}
end
end QV

set_option Elab.async false
set_option linter.all false
set_option maxRecDepth 100000
set_option maxHeartbeats 2000000
namespace QV
open PySem PySem.Spec PyProof.Rows L2
section
variable {K : PySem.W.Frag} {H : Hp} {ow : Ow} {σ : L2.St} {env : Env} {i : Nat} {t0 : T} {p : List Nat} {ds : List D}
theorem kind_swap {k : Kd} (k' : Addr → Kd) (s : StOk K H ow σ env) (e0 : env[i]? = some (some t0)) (e1 : T.sub t0 p = some (.ow k ds)) (hk : ∀ a dx vs, Cell H a dx k vs → Cell H a a (k' a) vs) (hf : ∀ a b, Foot a a (k' a) b → b = a) :
    ∃ (v0 v : V) (a dx : Addr) (vs : List V), σ[i]? = some (some v0) ∧ v = V.ref a ∧ Cell H a dx k vs ∧ Rps K (Bs H ow) vs ds ∧ StOk K H ow σ (env.set i (some (t0.put p (.ow (k' a) ds)))) := by
  obtain ⟨v0, ev, S0, r0⟩ := s.at_ i t0 e0
  obtain ⟨v, sb⟩ := sub_of e1 ⟨S0, r0⟩
  obtain ⟨St, rt, subS, go⟩ := sb.put r0
  cases rt with
  | @ow a dx _ vs _ c f r =>
    have oa : ow a = .sl i := f a foot_a
    have il : i < env.length := (List.getElem?_eq_some_iff.mp e0).1
    have same : Same (Bs H ow) (Bs H ow) := fun _ _ e => e
    obtain ⟨S4, r4, _⟩ := go H ow (.ow (k' a) ds) (Foot a a (k' a)) same (fun b o hb nb g1 g2 => ⟨g1, g2⟩)
      (.ow (dx := a) (hk _ _ _ c) (fun b fb => by rw [hf a b fb]; exact oa) r) (fun b hb _ => by
        have := hf a b hb
        subst this
        exact foot_a)
    refine ⟨v0, _, a, dx, vs, ev, rfl, c, r, ⟨by rw [List.length_set]; exact s.len, fun j t e => ?_⟩⟩
    by_cases hj : j = i
    · subst hj
      rw [List.getElem?_set_self il] at e
      cases e
      exact ⟨v0, ev, S4, r4⟩
    · rw [List.getElem?_set_ne (Ne.symm hj)] at e
      exact s.at_ j t e
theorem pin_list (s : StOk K H ow σ env) (e0 : env[i]? = some (some t0)) (e1 : T.sub t0 p = some (.ow .lst ds)) : ∃ a, StOk K H ow σ (env.set i (some (t0.put p (.ow (.lsA a) ds)))) := by
  obtain ⟨_, _, a, _, _, _, _, _, _, s'⟩ := kind_swap (k := .lst) (fun a => .lsA a) s e0 e1 (fun a dx vs c => ⟨c.at_, c.sz, rfl⟩) (fun a b fb => fb)
  exact ⟨a, s'⟩
end
def sPin (i : Nat) (p : List Nat) (q : SemS) : SemS := fun D env => match env[i]? with
  | some (some t0) => match T.sub t0 p with
    | some (.ow .lst ds) => ∀ a : Addr, q D (env.set i (some (t0.put p (.ow (.lsA a) ds))))
    | _ => False
  | _ => False
theorem QS.pin {X : Cx} {W : WX} {IO : List Nat} {st : Stmt} {q : SemS} (i : Nat) (p : List Nat) (h : QS X W IO st q) : QS X W IO st (sPin i p q) := ⟨PS_imp h.run fun D σ H ⟨ow, env, De, s, hq, k⟩ => by
  unfold sPin at hq
  split at hq
  · rename_i t0 e0
    split at hq
    · rename_i ds e1
      obtain ⟨a, s'⟩ := pin_list s e0 e1
      exact ⟨ow, _, De, s', hq a, k⟩
    · exact hq.elim
  · exact hq.elim⟩
section
variable {X : Cx} {W : WX} {M Ma : List Nat} {k : Nat} {ps : List Str} {spec : SemF} {e : Expr} {e1 : Expr} {q1 : SemE} {pa : SemP} {x : Str} {px pos : Pos}
end
end QV

set_option Elab.async false
set_option linter.all false
set_option maxRecDepth 100000
set_option maxHeartbeats 2000000
namespace QV
open PySem PySem.Spec PyProof.Rows L2
end QV

set_option Elab.async false
set_option linter.all false
set_option maxRecDepth 100000
set_option maxHeartbeats 2000000
namespace QV
open PySem PySem.Spec PyProof.Rows L2
section
variable {X : Cx} {W : WX} {M Ma Mb : List Nat} {k : Nat} {f : Addr} {fd : FuncData} {ps : List Str} {spec : SemF} {e : Expr} {x : Str} {p pos : Pos}
end
end QV

set_option Elab.async false
set_option linter.all false
set_option maxRecDepth 100000
set_option maxHeartbeats 2000000
namespace HI
noncomputable section
def st (acc h : Nat) : Nat :=
  (fun a => Nat.mod (Nat.mul (Nat.add (Nat.mod (Nat.mul a 2147483648) 18446744073709551616) (Nat.div a 8589934592)) 11400714785074694791) 18446744073709551616)
  (Nat.mod (Nat.add acc (Nat.mul h 14029467366897019727)) 18446744073709551616)
def fin (n acc : Nat) : Nat := Nat.mod (Nat.add acc (Nat.xor n (Nat.xor 2870177450012600261 3527539))) 18446744073709551616
section
variable (f g : Nat → Nat → Nat) (c : Nat)
def ext (as : List Nat) : List Nat := as.flatMap fun a => [f a 1, f a 2, f a 3, f a 4]
def l1 : List Nat := (List.range 24).map fun i => f c (Nat.add i 1)
def lK : Nat → List Nat
  | 0 => l1 f c
  | k+1 => ext f (lK k)
def GF := (lK f c 0).map (g 1) ++ ((lK f c 1).map (g 2) ++ ((lK f c 2).map (g 3) ++ ((lK f c 3).map (g 4) ++ ((lK f c 4).map (g 5) ++ (lK f c 5).map (g 6)))))
end
def G := GF st fin 2870177450012600261
def flt (p : Nat → Bool) (l : List Nat) : List Nat := List.rec (motive := fun _ => List Nat) [] (fun x _ ih => Bool.rec ih (x :: ih) (p x)) l
def ne (x : Nat) (l : List Nat) : Bool := List.rec (motive := fun _ => Bool) true (fun y _ ih => Bool.rec ih false (Nat.beq x y)) l
def nodB (l : List Nat) : Bool := List.rec (motive := fun _ => Bool) true (fun x l ih => Bool.rec false ih (ne x l)) l
def nodR (d : Nat) : List Nat → Bool := Nat.rec (motive := fun _ => List Nat → Bool) nodB (fun d ih l => Bool.rec false (ih (flt (fun x => Nat.beq (Nat.mod (Nat.shiftRight x d) 2) 1) l)) (ih (flt (fun x => Nat.beq (Nat.mod (Nat.shiftRight x d) 2) 0) l))) d
def allNe (l : List Nat) : Bool := List.rec (motive := fun _ => Bool) true (fun x _ ih => Bool.rec ih false (Nat.beq x 18446744073709551615)) l
theorem g_ne : allNe G = true := by decide +kernel
theorem g0 : nodR 12 (flt (fun x => Nat.beq (Nat.mod x 4) 0) G) = true := by decide +kernel
theorem g1 : nodR 12 (flt (fun x => Nat.beq (Nat.mod x 4) 1) G) = true := by decide +kernel
theorem g2 : nodR 12 (flt (fun x => Nat.beq (Nat.mod x 4) 2) G) = true := by decide +kernel
section
variable (f g : Nat → Nat → Nat) (c : Nat)
def accF (n : List Nat) : Nat := n.foldl f c
def hF (n : List Nat) : Nat := g n.length (accF f c n)
end
end
end HI

namespace QV
open PySem PySem.Spec PyProof.Rows L2 HI
end QV

set_option Elab.async false
set_option linter.all false
set_option maxRecDepth 100000
set_option maxHeartbeats 4000000
namespace L2
open PySem PySem.Spec PyProof.Rows
end L2
namespace QV
open PySem PySem.Spec PyProof.Rows L2
section
variable {X : Cx} {W : WX} {M Ma Ms : List Nat} {e es : Expr} {pa : SemP} {qs : SemO} {ra : Option Nat} {pos p3 : Pos}
end
end QV

set_option Elab.async false
set_option linter.all false
set_option maxRecDepth 100000
set_option maxHeartbeats 2000000
namespace QV
open PySem PySem.Spec PyProof.Rows L2
section
variable {X : Cx} {W : WX} {k : Nat} {f : Addr} {fd : FuncData} {ps : List Str} {sp : Sp} {x : Str} {p pos : Pos}
theorem pe_callG0 (F : FnG X.prog X.w X.K X.mg X.base k f fd ps sp) (hr : Room k X.A) (hG : X.A.guards = some []) (hg : Gl X x) (hm : X.mg x = some (.ref f)) (hk : PySem.W.keepIn X.K (.ref f) = true) (hb : Binds X.K fd ps []) (tk : L2.Takes X W)
    (hdb : (x == ("__debug__" : Str)) = false := by decide) :
    PE X (.Call (.Name x p) [] [] pos) (fun σ H Q => tNil σ H fun vs H1 => sp vs H1 Q fun cls d H' => W cls d σ H') := by
  constructor
  intro pins s σ H Q I h
  apply wpAny_Call_Name_kw
  refine ld_glob I hg hm ?_ hdb
  exact PySem.W.callWith_K0 I.kIn hk (runG F hr hG hb tk I .nil h)
end
section
variable {X : Cx} {W : WX} {k : Nat} {f : Addr} {fd : FuncData} {spec : SemF} {x : Str} {p pos : Pos}
theorem q_call0N (F : QFn X.prog X.w X.K X.mg X.base k f fd [] [] spec) (tk : L2.Takes X W) (hr : Room k X.A) (hG : X.A.guards = some []) (hg : Gl X x) (hm : X.mg x = some (.ref f)) (hk : PySem.W.keepIn X.K (.ref f) = true) (hb : Binds X.K fd [] [])
    (hdb : (x == ("__debug__" : Str)) = false := by decide) : QE X W [] (.Call (.Name x p) [] [] pos) (sCall spec [] [] aNil) :=
  ⟨PE_imp (pe_callG0 F hr hG hg hm hk hb tk hdb) fun σ H Qv ⟨n, ow, env, Q, E, st, hq, kk, xx⟩ => by
    have z := hq
    unfold sCall aNil at z
    dsimp only at z
    split at z
    · rename_i args ea
      exact call_run (ks := []) (by decide) rfl rfl st rfl (fun j v d h => by simp at h) rfl ea z kk xx
    · exact z.elim⟩
theorem q_callC0 (C : Callee X.prog X.w X.K X.mg X.base k x [] [] spec) (tk : L2.Takes X W) (hr : Room k X.A) (hG : X.A.guards = some []) (hg : Gl X x) (hdb : (x == ("__debug__" : Str)) = false := by decide) :
    QE X W [] (.Call (.Name x p) [] [] pos) (sCall spec [] [] aNil) :=
  let ⟨_, _, F, hm, hk, hb⟩ := C
  q_call0N F tk hr hG hg hm hk hb hdb
end
end QV

set_option Elab.async false
set_option linter.all false
set_option maxRecDepth 100000
set_option maxHeartbeats 2000000
namespace QV
open PySem PySem.Spec PyProof.Rows L2
section
variable {X : Cx} {W : WX} {o e : Expr} {ra rb : Option Nat} {Ma Ml : List Nat} {pa pb : SemP} {pos apos : Pos}
end
end QV

set_option Elab.async false
set_option linter.all false
set_option maxRecDepth 100000
set_option maxHeartbeats 2000000
namespace QV
open PySem PySem.Spec PyProof.Rows L2
section
variable {X : Cx} {W : WX} {Ma Mb : List Nat} {a b : Expr} {pa pb : SemP} {ra rb : Option Nat} {pos : Pos}
end
end QV

set_option Elab.async false
set_option linter.all false
set_option maxRecDepth 100000
set_option maxHeartbeats 2000000
namespace QV
open PySem PySem.Spec PyProof.Rows L2
def repS (x : Str) (k : Nat) : Str := ⟨(List.replicate k x.cps.toList).flatten.toArray⟩
def mulSG (t u : T) (Q : T → Prop) : Prop := match t, u with
  | .fz (.str x), .fz (.int k) => (1 ≤ k ∧ k ≤ 10000) ∧ x.length ≤ 1000 ∧ Q (.fz (.str (repS x k.toNat)))
  | _, _ => False
def rMulS : R2 := fun x y H Q => ∃ (a : Str) (k : Int), x = .str a ∧ y = .int k ∧ (1 ≤ k ∧ k ≤ 10000) ∧ a.length ≤ 1000 ∧ Q (.str (repS a k.toNat)) H
theorem repS_fold (a : Array Nat) : ∀ (n : Nat) (acc : Array Nat), (List.replicate n a).foldl (· ++ ·) acc = acc ++ (List.replicate n a.toList).flatten.toArray
  | 0, acc => by simp
  | n + 1, acc => by
    rw [List.replicate_succ, List.foldl_cons, repS_fold a n, List.replicate_succ, List.flatten_cons]
    apply Array.ext'
    simp
theorem repS_one (x : Str) : repS x 1 = x := by
  unfold repS
  cases x
  simp
theorem repS_nil (x : Str) (h : x.length = 0) (n : Nat) : repS x n = x := by
  have e : x.cps.toList = [] := List.eq_nil_of_length_eq_zero (by rw [Array.length_toList]; exact h)
  unfold repS
  rw [e]
  have : (List.replicate n ([] : List Nat)).flatten = [] := by simp
  rw [this]
  cases x with
  | mk c =>
    have : c = #[] := Array.eq_empty_of_size_eq_zero h
    rw [this]
theorem repS_len (x : Str) (n : Nat) : (repS x n).length = n * x.length := by
  show (List.replicate n x.cps.toList).flatten.toArray.size = _
  rw [List.size_toArray, List.length_flatten]
  simp only [List.map_replicate, List.sum_replicate_nat, Array.length_toList]
  rfl
theorem op_mulS {X : Cx} : OpR X (binaryOp .Mult) rMulS := by
  intro pins s σ H x y v u Q I rx ry h
  obtain ⟨a, k, rfl, rfl, ⟨h1, h2⟩, hz, q⟩ := h
  obtain ⟨t, rfl⟩ := rx
  obtain ⟨t', rfl⟩ := ry
  have hl : ¬ k < 1 := by omega
  have fin : ∀ (z : Str) (tk : Nat) (s' : Shared), z = repS a k.toNat → Inv X pins σ H s' → ∃ v' H', Inv X pins σ H' s' ∧ RelV v' (Value.str z tk) ∧ Q v' H' := fun z tk s' e I' => ⟨.str (repS a k.toNat), H, I', ⟨tk, by rw [e]⟩, q⟩
  have hmul : a.length * k.toNat ≤ 10000000 := Nat.le_trans (Nat.mul_le_mul hz (show k.toNat ≤ 10000 by omega)) (by decide)
  refine PySem.P.mul_str ?_ (fun _ _ => ?_) (fun _ _ => ?_) ?_
  · rw [decide_eq_false (by omega), decide_eq_false (by omega)]; rfl
  · have : (1000 : Int) ≤ (2 ^ 63 - 1) / k := Int.le_ediv_of_mul_le (by omega) (by omega)
    omega
  · unfold Builtin.Str.tooLong
    rw [decide_eq_false (by rw [sizeLine_eq]; omega)]
  · rw [if_neg hl]
    by_cases c : (k == 1 || a.length == 0) = true
    · rw [if_pos c]
      have e : a = repS a k.toNat := by
        simp only [Bool.or_eq_true, beq_iff_eq] at c
        rcases c with c | c
        · rw [c]; exact (repS_one a).symm
        · exact (repS_nil a c _).symm
      exact fin a t s e I
    · rw [if_neg c]
      refine ⟨?_, fin _ _ _ ?_ (I.tok _)⟩
      · have := repS_len a k.toNat
        unfold repS at this
        rw [repS_fold]
        rw [sizeLine_eq]
        have e : (⟨#[] ++ (List.replicate k.toNat a.cps.toList).flatten.toArray⟩ : Str) = ⟨(List.replicate k.toNat a.cps.toList).flatten.toArray⟩ := by simp
        rw [e, this, Nat.mul_comm]
        omega
      · unfold repS
        rw [repS_fold]
        simp
theorem g_mulS {K : PySem.W.Frag} : Op2 K rMulS mulSG := by
  intro H ow n x y t u Q Qv rx ry h k
  unfold mulSG at h
  split at h
  · exact ⟨_, _, rx.str, ry.int, h.1, h.2.1, k _ _ H ow Stp.refl (Tq.fz_.mpr (.str _)) h.2.2⟩
  · exact h.elim
section
variable {X : Cx} {W : WX} {Ma Mb : List Nat} {a b : Expr} {pa pb : SemP} {ra rb : Option Nat} {pos : Pos}
theorem q_mulS (ha : QP X W Ma ra a pa) (hb : QP X W Mb rb b pb) (hr : okR ra Mb = true := by decide) : QE X W (Ma ++ Mb) (.BinOp a .Mult b pos) (s2 pa pb mulSG) := q_op op_mulS g_mulS ha hb hr
end
end QV

set_option Elab.async false
set_option linter.all false
set_option maxRecDepth 100000
set_option maxHeartbeats 4000000
namespace My
open PySem L2 QV
def top (i : Nat) : Stmt := PySem.Challenge.pw_bedstone_k94_texts_refused.main.body.getD i (.Pass ⟨0, 0, 0, 0⟩)
abbrev tab_MADE_OF : List (Str × List Str) := [("draw", ["number"]), ("give", ["number", "mark"]), ("regive", ["pairs"]), ("leave", ["mark"]), ("dress", ["mark"]), ("crack", ["number", "axis", "measure"]), ("haul", ["marks"]), ("lay", ["mark"]), ("lift", ["mark"])]
abbrev nsL : List Str := ["NoText"]
abbrev tsL : List Str := ["NoPlan", "NoRow", "NoText", "Wrong"]
abbrev csL : List Str := ["StoneError"]
abbrev fsL : List Str := []
def isaL (x y : Str) : Bool := decide (x = y) || decide (y = "StoneError")
abbrev s_ini_NoText : Stmt := inCls (top 3) 0
theorem sc_ini_NoText : FnScope ["self"] ["self"] (defScope s_ini_NoText) := ⟨rfl, rfl, rfl, by decide +kernel, rfl, by decide +kernel, by decide +kernel⟩
theorem ini_NoText {P : Program} {w : World} {K : PySem.W.Frag} {mg : Str → Option Value} {base : Heap} {f : Addr} {fd : FuncData} (Fu : Fun K "__init__" "NoText.__init__" s_ini_NoText f fd) (Bc : BaseC K mg "StoneError") : FnOk P w K mg base (L2.CX P w) 1 f fd ["self"] (spIni K) := by
  obtain ⟨S, hm, h1, h2, h3⟩ := Bc
  refine Fu.okX sc_ini_NoText (fun vs H Q E h => by obtain ⟨a, C, rfl, _⟩ := h; rfl) (fun cdv A outer s H E vs Q hr h => ?_)
  obtain ⟨a, C, rfl, T, at0, q⟩ := h
  refine ⟨_, pss_one (ps_expr (pe_binit (by rfl) hm h1 h2 h3 (pa_cons (pv 0) (pa_cons pe_str pa_nil)))), ?_⟩
  exact ⟨.ref a, rfl, a, C, [_], rfl, by decide, T, at0, q⟩
structure Bt (mg : Str → Option Value) : Prop where
  ValueError : mg "ValueError" = none
  abs : mg "abs" = none
  all : mg "all" = none
  any : mg "any" = none
  bool : mg "bool" = none
  enumerate : mg "enumerate" = none
  int : mg "int" = none
  isinstance : mg "isinstance" = none
  len : mg "len" = none
  list : mg "list" = none
  min : mg "min" = none
  range : mg "range" = none
  repr : mg "repr" = none
  set : mg "set" = none
  str : mg "str" = none
  tuple : mg "tuple" = none
  g_FIGURES : ∃ t, mg "FIGURES" = some (.str ("0123456789" : Str) t)
  g_LONGEST_NUMBER : ∃ t, mg "LONGEST_NUMBER" = some (.int 6 t)
  g_MOST_FIGURES : ∃ t, mg "MOST_FIGURES" = some (.int 22 t)
  g_MOST_MEASURE : ∃ t, mg "MOST_MEASURE" = some (.int 1000000 t)
  g_MOST_OF_MARK : ∃ t, mg "MOST_OF_MARK" = some (.int 24 t)
  g_MOST_PAIRS : ∃ t, mg "MOST_PAIRS" = some (.int 24 t)
  g_MOST_PART : ∃ t, mg "MOST_PART" = some (.int 4 t)

abbrev s_is_whole : Stmt := top 11
theorem sc_is_whole : FnScope ["thing"] ["thing"] (defScope s_is_whole) := ⟨rfl, rfl, rfl, by decide +kernel, rfl, by decide +kernel, by decide +kernel⟩
abbrev s_is_between : Stmt := top 12
theorem sc_is_between : FnScope ["thing", "least", "most"] ["thing", "least", "most"] (defScope s_is_between) := ⟨rfl, rfl, rfl, by decide +kernel, rfl, by decide +kernel, by decide +kernel⟩
abbrev s_are_between : Stmt := top 13
theorem sc_are_between : FnScope ["things", "least", "most", "thing"] ["things", "least", "most"] (defScope s_are_between) := ⟨rfl, rfl, rfl, by decide +kernel, rfl, by decide +kernel, by decide +kernel⟩
abbrev s_is_measure : Stmt := top 14
theorem sc_is_measure : FnScope ["thing"] ["thing"] (defScope s_is_measure) := ⟨rfl, rfl, rfl, by decide +kernel, rfl, by decide +kernel, by decide +kernel⟩
abbrev s_is_number : Stmt := top 15
theorem sc_is_number : FnScope ["thing"] ["thing"] (defScope s_is_number) := ⟨rfl, rfl, rfl, by decide +kernel, rfl, by decide +kernel, by decide +kernel⟩
abbrev s_is_mark : Stmt := top 16
theorem sc_is_mark : FnScope ["thing"] ["thing"] (defScope s_is_mark) := ⟨rfl, rfl, rfl, by decide +kernel, rfl, by decide +kernel, by decide +kernel⟩
abbrev s_is_pair : Stmt := top 20
theorem sc_is_pair : FnScope ["thing"] ["thing"] (defScope s_is_pair) := ⟨rfl, rfl, rfl, by decide +kernel, rfl, by decide +kernel, by decide +kernel⟩
abbrev s_are_pairs : Stmt := top 21
theorem sc_are_pairs : FnScope ["thing", "pair"] ["thing"] (defScope s_are_pairs) := ⟨rfl, rfl, rfl, by decide +kernel, rfl, by decide +kernel, by decide +kernel⟩
abbrev s_are_hauled : Stmt := top 22
theorem sc_are_hauled : FnScope ["thing", "mark"] ["thing"] (defScope s_are_hauled) := ⟨rfl, rfl, rfl, by decide +kernel, rfl, by decide +kernel, by decide +kernel⟩
abbrev s_is_made : Stmt := top 23
theorem sc_is_made : FnScope ["kind", "thing"] ["kind", "thing"] (defScope s_is_made) := ⟨rfl, rfl, rfl, by decide +kernel, rfl, by decide +kernel, by decide +kernel⟩
abbrev s_is_deed : Stmt := top 24
theorem sc_is_deed : FnScope ["thing", "kinds", "k", "kind"] ["thing"] (defScope s_is_deed) := ⟨rfl, rfl, rfl, by decide +kernel, rfl, by decide +kernel, by decide +kernel⟩
abbrev s_whole_in : Stmt := top 28
theorem sc_whole_in : FnScope ["word", "sign"] ["word"] (defScope s_whole_in) := ⟨rfl, rfl, rfl, by decide +kernel, rfl, by decide +kernel, by decide +kernel⟩
abbrev s_number_in : Stmt := top 29
theorem sc_number_in : FnScope ["word", "number", "part"] ["word"] (defScope s_number_in) := ⟨rfl, rfl, rfl, by decide +kernel, rfl, by decide +kernel, by decide +kernel⟩
abbrev s_mark_in : Stmt := top 30
theorem sc_mark_in : FnScope ["word", "mark", "part"] ["word"] (defScope s_mark_in) := ⟨rfl, rfl, rfl, by decide +kernel, rfl, by decide +kernel, by decide +kernel⟩
abbrev s_pairs_in : Stmt := top 31
theorem sc_pairs_in : FnScope ["words", "k"] ["words"] (defScope s_pairs_in) := ⟨rfl, rfl, rfl, by decide +kernel, rfl, by decide +kernel, by decide +kernel⟩
abbrev s_deed_in : Stmt := top 32
theorem sc_deed_in : FnScope ["words", "word", "one"] ["words"] (defScope s_deed_in) := ⟨rfl, rfl, rfl, by decide +kernel, rfl, by decide +kernel, by decide +kernel⟩
abbrev s_read_number : Stmt := top 33
theorem sc_read_number : FnScope ["text", "number"] ["text"] (defScope s_read_number) := ⟨rfl, rfl, rfl, by decide +kernel, rfl, by decide +kernel, by decide +kernel⟩
abbrev s_read_mark : Stmt := top 34
theorem sc_read_mark : FnScope ["text", "mark"] ["text"] (defScope s_read_mark) := ⟨rfl, rfl, rfl, by decide +kernel, rfl, by decide +kernel, by decide +kernel⟩
abbrev s_read_deed : Stmt := top 35
theorem sc_read_deed : FnScope ["text", "deed"] ["text"] (defScope s_read_deed) := ⟨rfl, rfl, rfl, by decide +kernel, rfl, by decide +kernel, by decide +kernel⟩
abbrev s_bag : Stmt := top 37
theorem sc_bag : FnScope ["_law_script", "_law_cell"] ["_law_script"] (defScope s_bag) := ⟨rfl, rfl, rfl, by decide +kernel, rfl, by decide +kernel, by decide +kernel⟩
abbrev s_take : Stmt := top 38
theorem sc_take : FnScope ["_law_bag_here", "_law_many", "_law_cell", "_law_value", "_law_first", "_law_second"] ["_law_bag_here", "_law_many"] (defScope s_take) := ⟨rfl, rfl, rfl, by decide +kernel, rfl, by decide +kernel, by decide +kernel⟩
abbrev s_alike : Stmt := top 39
theorem sc_alike : FnScope ["_law_found", "_law_due_here"] ["_law_found", "_law_due_here"] (defScope s_alike) := ⟨rfl, rfl, rfl, by decide +kernel, rfl, by decide +kernel, by decide +kernel⟩
abbrev s_number : Stmt := top 40
theorem sc_number : FnScope ["_law_bag_here", "_law_found", "_law_k"] ["_law_bag_here"] (defScope s_number) := ⟨rfl, rfl, rfl, by decide +kernel, rfl, by decide +kernel, by decide +kernel⟩
abbrev s_mark : Stmt := top 41
theorem sc_mark : FnScope ["_law_bag_here", "_law_most"] ["_law_bag_here"] (defScope s_mark) := ⟨rfl, rfl, rfl, by decide +kernel, rfl, by decide +kernel, by decide +kernel⟩
abbrev s_marks : Stmt := top 42
theorem sc_marks : FnScope ["_law_bag_here", "_law_found", "_law_other"] ["_law_bag_here"] (defScope s_marks) := ⟨rfl, rfl, rfl, by decide +kernel, rfl, by decide +kernel, by decide +kernel⟩
abbrev s_deed : Stmt := top 43
theorem sc_deed : FnScope ["_law_bag_here", "_law_word", "_law_many", "_law_k", "_law_number_here", "_law_mark_here", "_law_far"] ["_law_bag_here"] (defScope s_deed) := ⟨rfl, rfl, rfl, by decide +kernel, rfl, by decide +kernel, by decide +kernel⟩
abbrev s_dotted : Stmt := top 44
theorem sc_dotted : FnScope ["_law_number_here", "_law_part"] ["_law_number_here"] (defScope s_dotted) := ⟨rfl, rfl, rfl, by decide +kernel, rfl, by decide +kernel, by decide +kernel⟩
abbrev s_stroked : Stmt := top 45
theorem sc_stroked : FnScope ["_law_mark_here"] ["_law_mark_here"] (defScope s_stroked) := ⟨rfl, rfl, rfl, by decide +kernel, rfl, by decide +kernel, by decide +kernel⟩
abbrev s_deed_text : Stmt := top 46
theorem sc_deed_text : FnScope ["_law_deed_here", "_law_words", "_law_number_here", "_law_mark_here"] ["_law_deed_here"] (defScope s_deed_text) := ⟨rfl, rfl, rfl, by decide +kernel, rfl, by decide +kernel, by decide +kernel⟩
abbrev s_lwhole_in : Stmt := top 47
theorem sc_lwhole_in : FnScope ["_law_word", "_law_least", "_law_most", "_law_sign_here"] ["_law_word", "_law_least", "_law_most"] (defScope s_lwhole_in) := ⟨rfl, rfl, rfl, by decide +kernel, rfl, by decide +kernel, by decide +kernel⟩
abbrev s_lnumber_in : Stmt := top 48
theorem sc_lnumber_in : FnScope ["_law_word", "_law_parts", "_law_found", "_law_k", "_law_part"] ["_law_word"] (defScope s_lnumber_in) := ⟨rfl, rfl, rfl, by decide +kernel, rfl, by decide +kernel, by decide +kernel⟩
abbrev s_lmark_in : Stmt := top 49
theorem sc_lmark_in : FnScope ["_law_word", "_law_found", "_law_part"] ["_law_word"] (defScope s_lmark_in) := ⟨rfl, rfl, rfl, by decide +kernel, rfl, by decide +kernel, by decide +kernel⟩
abbrev s_lists_in : Stmt := top 50
theorem sc_lists_in : FnScope ["_law_words", "_law_marks_here", "_law_word", "_law_pairs", "_law_k", "_law_pair"] ["_law_words"] (defScope s_lists_in) := ⟨rfl, rfl, rfl, by decide +kernel, rfl, by decide +kernel, by decide +kernel⟩
abbrev s_ldeed_in : Stmt := top 51
theorem sc_ldeed_in : FnScope ["_law_words", "_law_things", "_law_wants"] ["_law_words"] (defScope s_ldeed_in) := ⟨rfl, rfl, rfl, by decide +kernel, rfl, by decide +kernel, by decide +kernel⟩
abbrev s_due : Stmt := top 52
theorem sc_due : FnScope ["_law_word", "_law_text_here", "_law_found"] ["_law_word", "_law_text_here"] (defScope s_due) := ⟨rfl, rfl, rfl, by decide +kernel, rfl, by decide +kernel, by decide +kernel⟩
abbrev s_told : Stmt := top 53
theorem sc_told : FnScope ["_law_word", "_law_text_here", "e"] ["_law_word", "_law_text_here"] (defScope s_told) := ⟨rfl, rfl, rfl, by decide +kernel, rfl, by decide +kernel, by decide +kernel⟩
abbrev s_sign : Stmt := top 54
theorem sc_sign : FnScope ["_law_bag_here", "_law_some", "_law_near"] ["_law_bag_here"] (defScope s_sign) := ⟨rfl, rfl, rfl, by decide +kernel, rfl, by decide +kernel, by decide +kernel⟩
abbrev s_spoilt : Stmt := top 55
theorem sc_spoilt : FnScope ["_law_bag_here", "_law_text_here", "_law_sort", "_law_at", "_law_way", "_law_sign_here", "_law_after"] ["_law_bag_here", "_law_text_here"] (defScope s_spoilt) := ⟨rfl, rfl, rfl, by decide +kernel, rfl, by decide +kernel, by decide +kernel⟩
abbrev s_other_word : Stmt := top 56
theorem sc_other_word : FnScope ["_law_bag_here", "_law_text_here", "_law_words", "_law_at", "_law_some", "_law_way"] ["_law_bag_here", "_law_text_here"] (defScope s_other_word) := ⟨rfl, rfl, rfl, by decide +kernel, rfl, by decide +kernel, by decide +kernel⟩
abbrev s_text : Stmt := top 57
theorem sc_text : FnScope ["_law_bag_here", "_law_sort", "_law_turns", "_law_words", "_law_text_here", "_law_k"] ["_law_bag_here"] (defScope s_text) := ⟨rfl, rfl, rfl, by decide +kernel, rfl, by decide +kernel, by decide +kernel⟩
abbrev s_edges : Stmt := top 58
theorem sc_edges : FnScope ["_law_found"] [] (defScope s_edges) := ⟨rfl, rfl, rfl, by decide +kernel, rfl, by decide +kernel, by decide +kernel⟩
abbrev s_law : Stmt := top 59
theorem sc_law : FnScope ["_law_script", "_law_bag_here", "_law_texts", "_law_k", "_law_turn", "_law_text_here", "_law_word", "_law_thing"] ["_law_script"] (defScope s_law) := ⟨rfl, rfl, rfl, by decide +kernel, rfl, by decide +kernel, by decide +kernel⟩
local macro_rules | `(tactic| walk_at "v") => `(tactic| first
  | refine ⟨_, rfl, ?_⟩
  | refine ⟨.inl rfl, ?_⟩
  | refine ⟨rfl, ?_⟩
  | refine ⟨cmulR (by decide) (by decide), ?_⟩
  | refine ⟨cmulL (by decide) (by decide), ?_⟩
  | refine ⟨cmulR (by omega) (by omega), ?_⟩
  | refine ⟨cmulL (by omega) (by omega), ?_⟩
  | refine ⟨show (0 : Int) < _ by omega, ?_⟩
  | refine ⟨cdivS (by omega) (by omega), ?_⟩
  | refine ⟨cdivB (by omega) (by omega), ?_⟩
  | refine ⟨show CPow _ _ from ⟨by decide, by decide, by decide⟩, ?_⟩
  | refine ⟨_, _, rfl, (show IsBag _ by assumption), (show (0 : Int) < _ by omega), (by omega), fun _ _ _ _ _ => ?_⟩
  | walk_at "m")
local macro_rules | `(tactic| walk_at "vs") => `(tactic| repeat walk_at "v")
local macro_rules | `(tactic| walk_at "vn") => `(tactic| repeat (walk_at "v"; walk_at "nf"))
local macro_rules | `(tactic| walk_at "m") => `(tactic| refine ⟨_, fun _ => (by (walk_at "vs"); first | exact rfl | exact ⟨rfl, rfl⟩), ?_⟩)
local macro_rules | `(tactic| walk_at "w") => `(tactic| conv => whnf)
local macro_rules | `(tactic| walk_at "so") => `(tactic| first | omega | (simp; done) | (simp; omega) | (simp at *; omega))
local macro_rules | `(tactic| walk_at "nf") => `(tactic| try dsimp only [env0, putE_nil, putE_cons, putO_nil, putO_cons, nf_set0, nf_setS, wipeE, rstE, nf_map, nf_map0, nf_app, nf_app0, List.length_cons, List.length_nil, Nat.reduceAdd, Nat.reduceSub, List.replicate_succ, List.replicate_zero])
local macro_rules | `(tactic| walk_at "no") => `(tactic| refine ⟨.inl rfl, fun z => absurd z (by simp [eqD, T.d]), fun _ => ?_⟩)
local macro_rules | `(tactic| walk_at "yes") => `(tactic| refine ⟨.inl rfl, fun _ => ?_, fun z => absurd z (by simp [eqD, T.d])⟩)
local macro_rules | `(tactic| walk_at "ns") => `(tactic| refine ⟨.inl rfl, fun z => absurd z (by decide +kernel), fun _ => ?_⟩)
local macro_rules | `(tactic| walk_at "sk") => `(tactic| (walk_at "nf"; repeat (walk_at "ns"; walk_at "nf")))
local macro_rules | `(tactic| walk_at "sy") => `(tactic| (walk_at "sk"; walk_at "yes"; walk_at "nf"))

structure Bx where
  (x y z l w h : Int)
def Bx.ok (b : Bx) : Prop := (0 ≤ b.x ∧ 1 ≤ b.l ∧ b.x + b.l ≤ 1000000) ∧ (0 ≤ b.y ∧ 1 ≤ b.w ∧ b.y + b.w ≤ 1000000) ∧ (0 ≤ b.z ∧ 1 ≤ b.h ∧ b.z + b.h ≤ 1000000)
def iB : D → Option Int | .int i => some i | _ => none
def whB (d : D) : Bool := (iB d).isSome
def btB (d : D) (lo hi : Int) : Bool := match iB d with | some i => decide (lo ≤ i ∧ i ≤ hi) | none => false
def tyD (d : D) : Bool := (tyN d).isSome
def tyA (d : D) : Bool := tyD d && match d with | .nd .tup ds => ds.all tyD | _ => true
def wholeS : SemF := fun args Q E => ∃ d, args = [.fz d] ∧ tyD d = true ∧ Q (.fz (.bl (whB d))) []
def betweenS : SemF := fun args Q E => ∃ d, ∃ lo hi : Int, args = [.fz d, .fz (.int lo), .fz (.int hi)] ∧ tyD d = true ∧ Q (.fz (.bl (btB d lo hi))) []
def areS : SemF := fun args Q E => ∃ ds, ∃ lo hi : Int, args = [.fz (.nd .tup ds), .fz (.int lo), .fz (.int hi)] ∧ ds.all tyD = true ∧ Q (.fz (.bl (ds.all fun d => btB d lo hi))) []
def measureS : SemF := fun args Q E => ∃ d, args = [.fz d] ∧ tyD d = true ∧ Q (.fz (.bl (btB d 1 1000000))) []
theorem iB_some {d : D} {i : Int} (h : iB d = some i) : d = .int i := by
  cases d <;> first | (cases h; rfl) | cases h
theorem ki_none {d : D} (ht : tyD d = true) (h : iB d = none) : (∃ b, d = .bl b) ∨ kInt d = some false := by
  obtain ⟨n, hn⟩ := Option.isSome_iff_exists.mp ht
  cases d with
  | int i => cases h
  | bl b => exact .inl ⟨b, rfl⟩
  | nd k ds => cases k <;> cases hn <;> exact .inr rfl
  | _ => cases hn <;> exact .inr rfl
theorem kt_none {d : D} (ht : tyA d = true) (h : ∀ ds, d ≠ .nd .tup ds) : QV.kTup d = some false := by
  unfold tyA at ht
  rw [Bool.and_eq_true] at ht
  obtain ⟨n, hn⟩ := Option.isSome_iff_exists.mp ht.1
  cases d with
  | nd k ds =>
    cases k with
    | tup => exact absurd rfl (h ds)
    | _ => cases hn <;> rfl
  | _ => cases hn <;> rfl
theorem bt_ex {d : D} {lo hi : Int} (h : btB d lo hi = true) : ∃ i : Int, (lo ≤ i ∧ i ≤ hi) ∧ d = .int i := by
  unfold btB at h
  cases e : iB d with
  | none => rw [e] at h; cases h
  | some i => rw [e] at h; exact ⟨i, by simpa using h, iB_some e⟩
def Bx.sz (b : Bx) (a : Int) : Int := if a = 0 then b.l else if a = 1 then b.w else b.h
def pos (c : Int × Bx) : Bool := decide (0 < c.2.l ∧ 0 < c.2.w ∧ 0 < c.2.h)
def bN (b : Bool) : Nat := if b then 1 else 0

def sml (k n : Nat) (d : D) : Prop := d.pl n = true ∧ shrt d = true ∧ szD d ≤ k
theorem sml_int {n : Nat} {i : Int} (h : -(10 ^ 30) < i ∧ i < 10 ^ 30) : sml 140 n (.int i) := ⟨by cases n <;> rfl, by simp only [shrt, decide_eq_true_eq]; omega, Nat.le_refl _⟩
theorem sml_bl {n : Nat} {b : Bool} : sml 0 n (.bl b) := ⟨by cases n <;> rfl, rfl, Nat.le_refl _⟩
theorem sml_strL {n m : Nat} {g : Str} (h : g.cps.size ≤ m) (h2 : ∀ c, c ∈ g.cps.toList → c < 128) : sml m n (.str g) := by
  refine ⟨?_, ?_, h⟩
  · cases n <;> (simp only [D.pl, PyData.strOk]; rw [← Array.all_toList, List.all_eq_true]; exact fun c hc => by have := h2 c hc; simp; omega)
  · simp only [shrt, List.all_eq_true, decide_eq_true_eq]
    exact fun c hc => by have := h2 c hc; omega
theorem sml_mono {k m n : Nat} {d : D} (h : sml k n d) (l : k ≤ m) : sml m n d := ⟨h.1, h.2.1, Nat.le_trans h.2.2 l⟩
theorem sml_lstD {k n m : Nat} {ds : List D} (h : ∀ d, d ∈ ds → sml k n d) (hl : ds.length ≤ m) : sml (m * (k + 1)) (n + 1) (.nd .lst ds) :=
  ⟨pl_lst fun d hd => (h d hd).1, shrts_all fun d hd => (h d hd).2.1, Nat.le_trans (szDs_le fun d hd => (h d hd).2.2) (Nat.mul_le_mul hl (Nat.le_refl _))⟩
theorem sml_tupD {k n m : Nat} {ds : List D} (h : ∀ d, d ∈ ds → sml k n d) (hl : ds.length ≤ m) : sml (m * (k + 1)) (n + 1) (.nd .tup ds) :=
  ⟨pl_tup fun d hd => (h d hd).1, shrts_all fun d hd => (h d hd).2.1, Nat.le_trans (szDs_le fun d hd => (h d hd).2.2) (Nat.mul_le_mul hl (Nat.le_refl _))⟩
theorem sml_lst {α : Type} {k n m : Nat} {l : List α} {f : α → D} (h : ∀ a, a ∈ l → sml k n (f a)) (hl : l.length ≤ m) : sml (m * (k + 1)) (n + 1) (.nd .lst (l.map f)) := sml_lstD (fun d hd => by
  obtain ⟨a, ha, rfl⟩ := List.mem_map.mp hd; exact h a ha) (by rw [List.length_map]; exact hl)
inductive smls (n : Nat) : Nat → List D → Prop
  | nil : smls n 0 []
  | cons {k m : Nat} {d : D} {ds : List D} : sml k n d → smls n m ds → smls n (k + 1 + m) (d :: ds)
theorem smls.and {n k : Nat} {ds : List D} (h : smls n k ds) : Dspl n ds = true ∧ shrts ds = true ∧ szDs ds ≤ k := by
  induction h with
  | nil => exact ⟨rfl, rfl, Nat.le_refl _⟩
  | cons a _ ih => exact ⟨by simp [Dspl, a.1, ih.1], by simp [shrts, a.2.1, ih.2.1], by have := a.2.2; have := ih.2.2; simp only [szDs]; omega⟩
theorem sml_tup {k n : Nat} {ds : List D} (h : smls n k ds) : sml k (n + 1) (.nd .tup ds) := ⟨by rw [D.pl]; exact h.and.1, h.and.2.1, h.and.2.2⟩
theorem szN {n : Nat} (h : n ≤ 16777216) : n ≤ sizeLine := by rw [sizeLine_eq]; exact h
theorem szI {i : Int} (h : i ≤ 16777216) : i ≤ ((sizeLine : Nat) : Int) := by rw [sizeLine_eq]; exact h
theorem szL {n : Nat} (h : n < 16777216) : n < sizeLine := by rw [sizeLine_eq]; exact h
theorem sml_al {k : Nat} {d : D} (h : sml k 64 d) (hk : k ≤ 262144) : d.pl 64 = true ∧ shwD d := ⟨h.1, shw_of h.2.1 (Nat.le_trans h.2.2 hk)⟩

def nuB : D → Bool | .nd .tup ds => (decide ((1 : Int) ≤ ds.length) && decide ((ds.length : Int) ≤ 6)) && (((ds.take 1).all fun d => btB d 1 24) && ((ds.drop 1).all fun d => btB d 1 4)) | _ => false
def mkB : D → Bool | .nd .tup ds => decide (ds.length = 2) && ds.all fun d => btB d 1 24 | _ => false
def prB : D → Bool | .nd .tup [a, b] => nuB a && mkB b | _ => false
def prsB : D → Bool | .nd .lst ds => (decide ((1 : Int) ≤ ds.length) && decide ((ds.length : Int) ≤ 24)) && ds.all prB | _ => false
def dif2 : List D → Bool | [a, b] => !eqD a b | _ => true
def mksB : D → Bool | .nd .lst ds => (decide ((1 : Int) ≤ ds.length) && decide ((ds.length : Int) ≤ 2)) && (ds.all mkB && dif2 ds) | _ => false
def madeB (k : Str) (d : D) : Bool := if k = "number" then nuB d else if k = "mark" then mkB d else if k = "pairs" then prsB d else if k = "marks" then mksB d else if k = "axis" then btB d 0 2 else btB d 1 1000000
def kindsOf (z : Str) : Option (List Str) := (tab_MADE_OF.find? fun p => decide (p.1 = z)).map (·.2)
def deedB : D → Bool
  | .nd .tup (.str z :: r) => match kindsOf z with
    | some ks => decide (r.length = ks.length) && (ks.zip r).all fun p => madeB p.1 p.2
    | none => false
  | _ => false
def oD : Option Int → D | none => .non | some i => .int i
def iS (i : Int) : Str := toString i
abbrev nsD (ns : List Int) : D := .nd .tup (ns.map .int)
abbrev mkD (m : Int × Int) : D := .nd .tup [.int m.1, .int m.2]
abbrev prD (p : List Int × (Int × Int)) : D := .nd .tup [nsD p.1, mkD p.2]
abbrev lsD (ws : List Str) : D := .nd .lst (ws.map .str)
def noOk (ns : List Int) : Prop := ∃ a r, ns = a :: r ∧ (1 ≤ a ∧ a ≤ 24) ∧ r.length ≤ 5 ∧ ∀ x, x ∈ r → 1 ≤ x ∧ x ≤ 4
def mkOk (m : Int × Int) : Prop := (1 ≤ m.1 ∧ m.1 ≤ 24) ∧ (1 ≤ m.2 ∧ m.2 ≤ 24)
def dotS (ns : List Int) : Str := Txt.join "." (ns.map iS)
def strk (m : Int × Int) : Str := Txt.join "/" [iS m.1, iS m.2]
def digL (l : List Nat) : Bool := l.all fun c => decide (48 ≤ c) && decide (c ≤ 57)
def whF (x : Str) : Option Int := if TL.tl x = [] ∨ 22 < x.length ∨ ((TL.tl x).head? = some 48 ∧ 1 < x.length) ∨ digL (TL.tl x) = false then none else some (NumText.digitsVal (TL.tl x) : Nat)
def nuF (x : Str) : D := if nuB (.nd .tup ((Txt.split x ".").map fun p => oD (whF p))) = true then .nd .tup ((Txt.split x ".").map fun p => oD (whF p)) else .non
def mkF (x : Str) : D := if mkB (.nd .tup ((Txt.split x "/").map fun p => oD (whF p))) = true then .nd .tup ((Txt.split x "/").map fun p => oD (whF p)) else .non
def prF (ws : List Str) : List D := (List.range (ws.length / 2)).map fun k => .nd .tup [nuF (ws.getD (2 * k) ""), mkF (ws.getD (2 * k + 1) "")]
def dinT (ws : List Str) : T :=
  if ws.getD 0 "" = "regive" ∧ ws.length % 2 = 1 then .nd .tup [.fz (.str (ws.getD 0 "")), .ow .lst (prF (ws.drop 1))]
  else if ws.getD 0 "" = "haul" then .nd .tup [.fz (.str (ws.getD 0 "")), .ow .lst ((ws.drop 1).map mkF)]
  else if ws.getD 0 "" = "draw" ∧ ws.length = 2 then .fz (.nd .tup [.str (ws.getD 0 ""), nuF (ws.getD 1 "")])
  else if ws.getD 0 "" = "give" ∧ ws.length = 3 then .fz (.nd .tup [.str (ws.getD 0 ""), nuF (ws.getD 1 ""), mkF (ws.getD 2 "")])
  else if ws.getD 0 "" = "crack" ∧ ws.length = 4 then .fz (.nd .tup [.str (ws.getD 0 ""), nuF (ws.getD 1 ""), oD (whF (ws.getD 2 "")), oD (whF (ws.getD 3 ""))])
  else if ws.length = 2 then .fz (.nd .tup [.str (ws.getD 0 ""), mkF (ws.getD 1 "")])
  else .fz .non
def shT (x : Str) : Prop := x.length ≤ 1000000
def oneT (f : D → Bool) : SemF := fun args Q E => ∃ d, args = [.fz d] ∧ tyA d = true ∧ Q (.fz (.bl (f d))) []
def oneP (f : D → Bool) : SemF := fun args Q E => ∃ d, args = [.fz d] ∧ d.pt 6 = true ∧ Q (.fz (.bl (f d))) []
def madeS : SemF := fun args Q E => ∃ k d, args = [.fz (.str k), .fz d] ∧ d.pt 6 = true ∧ Q (.fz (.bl (madeB k d))) []
def deedS : SemF := fun args Q E => ∃ d, args = [.fz d] ∧ d.pt 7 = true ∧ Q (.fz (.bl (deedB d))) []
def showNS : SemF := fun args Q E => ∃ ns, args = [.fz (nsD ns)] ∧ noOk ns ∧ Q (.fz (.str (dotS ns))) []
def showMS : SemF := fun args Q E => ∃ m, args = [.fz (mkD m)] ∧ mkOk m ∧ Q (.fz (.str (strk m))) []
def wholeInS : SemF := fun args Q E => ∃ x, args = [.fz (.str x)] ∧ shT x ∧ Q (.fz (oD (whF x))) []
def numInS : SemF := fun args Q E => ∃ x, args = [.fz (.str x)] ∧ shT x ∧ Q (.fz (nuF x)) []
def mkInS : SemF := fun args Q E => ∃ x, args = [.fz (.str x)] ∧ shT x ∧ Q (.fz (mkF x)) []
def prInS : SemF := fun args Q E => ∃ ws : List Str, args = [.fz (lsD ws)] ∧ ws.length ≤ 2000000 ∧ (∀ x, x ∈ ws → shT x) ∧ Q (.ow .lst (prF ws)) []
def dinS : SemF := fun args Q E => ∃ ws : List Str, args = [.fz (lsD ws)] ∧ ws ≠ [] ∧ ws.length ≤ 2000000 ∧ (∀ x, x ∈ ws → shT x) ∧ Q (dinT ws) []
inductive Dd where
  | num (ns : List Int) | give (ns : List Int) (m : Int × Int) | crack (ns : List Int) (a s : Int) | mark (w : Str) (m : Int × Int) | pairs (ps : List (List Int × (Int × Int))) | marks (ms : List (Int × Int))
def Dd.d : Dd → D
  | .num ns => .nd .tup [.str "draw", nsD ns]
  | .give ns m => .nd .tup [.str "give", nsD ns, mkD m]
  | .crack ns a s => .nd .tup [.str "crack", nsD ns, .int a, .int s]
  | .mark w m => .nd .tup [.str w, mkD m]
  | .pairs ps => .nd .tup [.str "regive", .nd .lst (ps.map prD)]
  | .marks ms => .nd .tup [.str "haul", .nd .lst (ms.map mkD)]
def Dd.t : Dd → T
  | .pairs ps => .nd .tup [.fz (.str "regive"), .ow .lst (ps.map prD)]
  | .marks ms => .nd .tup [.fz (.str "haul"), .ow .lst (ms.map mkD)]
  | x => .fz x.d
def Dd.w : Dd → List Str
  | .num ns => ["draw", dotS ns]
  | .give ns m => ["give", dotS ns, strk m]
  | .crack ns a s => ["crack", dotS ns, iS a, iS s]
  | .mark w m => [w, strk m]
  | .pairs ps => "regive" :: ps.flatMap fun p => [dotS p.1, strk p.2]
  | .marks ms => "haul" :: ms.map strk
def mkWs : List Str := ["leave", "dress", "lay", "lift"]
def Dd.ok : Dd → Prop
  | .num ns => noOk ns
  | .give ns m => noOk ns ∧ mkOk m
  | .crack ns a s => noOk ns ∧ (0 ≤ a ∧ a ≤ 2) ∧ (1 ≤ s ∧ s ≤ 1000000)
  | .mark w m => w ∈ mkWs ∧ mkOk m
  | .pairs ps => ps ≠ [] ∧ ps.length ≤ 24 ∧ ∀ p, p ∈ ps → noOk p.1 ∧ mkOk p.2
  | .marks ms => ms ≠ [] ∧ ms.length ≤ 2 ∧ (∀ m, m ∈ ms → mkOk m) ∧ ms.Nodup
def ddTxt (x : Dd) : Str := Txt.join " " x.w
def showDS : SemF := fun args Q E => ∃ x : Dd, args = [.fz x.d] ∧ x.ok ∧ Q (.fz (.str (ddTxt x))) []
theorem cut1 {a : D} {r : List D} : cutL (a :: r) (some 1) none = r := by
  unfold cutL
  simp [HT.sIx]
mutual
theorem pt_mono : ∀ {n m : Nat} (d : D), d.pt n = true → n ≤ m → d.pt m = true
  | n, m, .non, _, _ => by simp [D.pt]
  | n, m, .bl _, _, _ => by simp [D.pt]
  | n, m, .int _, _, _ => by simp [D.pt]
  | n, m, .str x, h, _ => by simp [D.pt]
  | 0, m, .nd .lst ds, h, _ => by simp [D.pt] at h
  | 0, m, .nd .tup ds, h, _ => by simp [D.pt] at h
  | 0, m, .nd (.dK []) [], h, _ => by simp [D.pt] at h
  | 0, m, .nd (.dK []) (_ :: _), h, _ => by simp [D.pt] at h
  | 0, m, .nd (.dK (_ :: _)) ds, h, _ => by simp [D.pt] at h
  | 0, m, .nd (.dT _) ds, h, _ => by simp [D.pt] at h
  | 0, m, .nd (.lkT _ _) ds, h, _ => by simp [D.pt] at h
  | 0, m, .nd (.lsA _) ds, h, _ => by simp [D.pt] at h
  | 0, m, .nd (.ins _ _) ds, h, _ => by simp [D.pt] at h
  | n + 1, 0, .nd k ds, _, h => by omega
  | n + 1, m + 1, .nd .lst ds, h, hl => by
    rw [D.pt] at h ⊢
    exact pts_mono ds h (by omega)
  | n + 1, m + 1, .nd .tup ds, h, hl => by
    rw [D.pt] at h ⊢
    exact pts_mono ds h (by omega)
  | n + 1, m + 1, .nd (.dK []) [], h, _ => by simp [D.pt]
  | n + 1, m + 1, .nd (.dK []) (_ :: _), h, _ => by simp [D.pt] at h
  | n + 1, m + 1, .nd (.dK (_ :: _)) ds, h, _ => by simp [D.pt] at h
  | n + 1, m + 1, .nd (.dT _) ds, h, _ => by simp [D.pt] at h
  | n + 1, m + 1, .nd (.lkT _ _) ds, h, _ => by simp [D.pt] at h
  | n + 1, m + 1, .nd (.lsA _) ds, h, _ => by simp [D.pt] at h
  | n + 1, m + 1, .nd (.ins _ _) ds, h, _ => by simp [D.pt] at h
  | n, m, .scr _, h, _ => by cases n <;> simp [D.pt] at h
  | n, m, .exc _ _ _ _ _, h, _ => by cases n <;> simp [D.pt] at h
theorem pts_mono : ∀ {n m : Nat} (ds : List D), Dpts n ds = true → n ≤ m → Dpts m ds = true
  | n, m, [], _, _ => by simp [Dpts]
  | n, m, d :: ds, h, hl => by
    have h' : d.pt n = true ∧ Dpts n ds = true := by simpa [Dpts] using h
    simp only [Dpts, Bool.and_eq_true]
    exact ⟨pt_mono d h'.1 hl, pts_mono ds h'.2 hl⟩
end
theorem pt_ty {n : Nat} {d : D} (h : d.pt n = true) : tyD d = true := by
  cases d with
  | nd k ds =>
    cases n with
    | zero => cases k <;> (try rename_i ks; cases ks) <;> first | rfl | (simp [D.pt] at h; done)
    | succ n => cases k <;> (try rename_i ks; cases ks) <;> first | rfl | (simp [D.pt] at h; done)
  | scr _ => cases n <;> simp [D.pt] at h
  | exc _ _ _ _ _ => cases n <;> simp [D.pt] at h
  | _ => rfl
theorem dpts_mem : ∀ {n : Nat} {ds : List D}, Dpts n ds = true → ∀ d, d ∈ ds → d.pt n = true
  | _, [], _, _, h => nomatch h
  | n, d :: ds, h, x, hx => by
    have h' : d.pt n = true ∧ Dpts n ds = true := by simpa [Dpts] using h
    rcases List.mem_cons.mp hx with rfl | hx
    · exact h'.1
    · exact dpts_mem h'.2 x hx
theorem pt_tupI {n : Nat} {ds : List D} (h : (D.nd .tup ds).pt (n + 1) = true) : ∀ d, d ∈ ds → d.pt n = true := by
  rw [D.pt] at h
  exact dpts_mem h
theorem pt_lstI {n : Nat} {ds : List D} (h : (D.nd .lst ds).pt (n + 1) = true) : ∀ d, d ∈ ds → d.pt n = true := by
  rw [D.pt] at h
  exact dpts_mem h
theorem pt_tyA {n : Nat} {d : D} (h : d.pt (n + 1) = true) : tyA d = true := by
  unfold tyA
  rw [pt_ty h, Bool.true_and]
  cases d with
  | nd k ds =>
    cases k with
    | tup => exact List.all_eq_true.mpr fun x hx => pt_ty (pt_tupI h x hx)
    | _ => rfl
  | _ => rfl
theorem kl_none {d : D} (ht : tyD d = true) (h : ∀ ds, d ≠ .nd .lst ds) : kLst d = some false := by
  obtain ⟨n, hn⟩ := Option.isSome_iff_exists.mp ht
  cases d with
  | nd k ds =>
    cases k with
    | lst => exact absurd rfl (h ds)
    | _ => cases hn <;> rfl
  | _ => cases hn <;> rfl
theorem ks_none {d : D} (ht : tyD d = true) (h : ∀ x, d ≠ .str x) : kStr d = some false := by
  obtain ⟨n, hn⟩ := Option.isSome_iff_exists.mp ht
  cases d with
  | str x => exact absurd rfl (h x)
  | nd k ds => cases k <;> cases hn <;> rfl
  | _ => cases hn <;> rfl
theorem iS_tl {i : Int} (h : 0 ≤ i) : TL.tl (iS i) = TL.numL i.toNat := by
  have e : i = ((i.toNat : Nat) : Int) := by omega
  have := TL.tl_num i.toNat
  rw [← e] at this
  exact this
theorem iS_len {i : Int} {k : Nat} (hk : 0 < k) (h : 0 ≤ i) (h2 : i.toNat < 10 ^ k) : (iS i).length ≤ k := by
  rw [TL.len_tl, iS_tl h]
  exact TL.numL_len hk h2
theorem iS_log {i : Int} (h : i.natAbs ≤ 1000000) : i.natAbs.log2 < 1920 := by
  have : i.natAbs.log2 ≤ i.natAbs := Nat.log2_le_self _
  by_cases h0 : i.natAbs = 0
  · rw [h0]; decide
  have h1 : i.natAbs.log2 < 20 := (Nat.log2_lt h0).mpr (by omega)
  omega
theorem free_num {i : Int} {s : Nat} (h : 0 ≤ i) (hs : s < 48 ∨ 57 < s) : s ∉ TL.tl (iS i) := by
  rw [iS_tl h]
  exact TL.numL_free hs
theorem noOk.pos {ns : List Int} (h : noOk ns) : ns ≠ [] ∧ ∀ i, i ∈ ns → 0 ≤ i ∧ i ≤ 1000000 := by
  obtain ⟨a, r, rfl, ha, _, hr⟩ := h
  refine ⟨by simp, fun i hi => ?_⟩
  rcases List.mem_cons.mp hi with rfl | hi
  · omega
  · have := hr i hi; omega
theorem noOk.len {ns : List Int} (h : noOk ns) : ns.length ≤ 6 := by
  obtain ⟨a, r, rfl, ha, h2, hr⟩ := h
  rw [List.length_cons]; omega
theorem nuB_ok {ns : List Int} (h : noOk ns) : nuB (nsD ns) = true := by
  obtain ⟨a, r, rfl, ha, h2, hr⟩ := h
  have e : (r.map D.int).all (fun d => btB d 1 4) = true := by
    rw [List.all_eq_true]
    intro d hd
    obtain ⟨x, hx, rfl⟩ := List.mem_map.mp hd
    have := hr x hx
    simp only [btB, iB, decide_eq_true_eq]
    exact this
  have h1 : nuB (nsD (a :: r)) = ((decide ((1 : Int) ≤ ((a :: r).map D.int).length) && decide ((((a :: r).map D.int).length : Int) ≤ 6)) && ((btB (.int a) 1 24 && true) && (r.map D.int).all fun d => btB d 1 4)) := rfl
  rw [h1, e]
  simp only [btB, iB, List.map_cons, List.length_cons, List.length_map, Bool.and_true, Bool.and_eq_true, decide_eq_true_eq]
  exact ⟨⟨by omega, by omega⟩, ha⟩
theorem mkB_ok {m : Int × Int} (h : mkOk m) : mkB (mkD m) = true := by
  obtain ⟨h1, h2⟩ := h
  simp only [mkB, mkD, List.length_cons, List.length_nil, List.all_cons, List.all_nil, btB, iB, Bool.and_true, Bool.and_eq_true, decide_eq_true_eq]
  exact ⟨by decide, h1, h2⟩
theorem joinL_mem {S : List Nat} {c : Nat} : ∀ ls : List (List Nat), c ∈ TL.joinL S ls → c ∈ S ∨ ∃ l, l ∈ ls ∧ c ∈ l
  | [], h => by simp [TL.joinL] at h
  | [p], h => .inr ⟨p, by simp, by simpa [TL.joinL] using h⟩
  | p :: q :: r, h => by
    simp only [TL.joinL, List.mem_append] at h
    rcases h with h | h | h
    · exact .inr ⟨p, by simp, h⟩
    · exact .inl h
    · rcases joinL_mem (q :: r) h with z | ⟨l, hl, z⟩
      · exact .inl z
      · exact .inr ⟨l, List.mem_cons_of_mem _ hl, z⟩
theorem joinL_len {S : List Nat} {k : Nat} : ∀ ls : List (List Nat), (∀ l, l ∈ ls → l.length ≤ k) → (TL.joinL S ls).length ≤ ls.length * (k + S.length)
  | [], _ => by simp [TL.joinL]
  | [p], h => by have := h p (by simp); simp [TL.joinL]; omega
  | p :: q :: r, h => by
    have h1 := h p (by simp)
    have h2 := joinL_len (S := S) (k := k) (q :: r) fun l hl => h l (List.mem_cons_of_mem _ hl)
    simp only [TL.joinL, List.length_append]
    rw [List.length_cons (a := p), Nat.add_mul]
    omega
theorem join_tl (y : Str) (ws : List Str) : TL.tl (Txt.join y ws) = TL.joinL (TL.tl y) (ws.map TL.tl) := by
  rw [TL.join_eq]; exact TL.tl_join y ws
theorem join_len {y : Str} {ws : List Str} {k : Nat} (h : ∀ x, x ∈ ws → x.length ≤ k) : (Txt.join y ws).length ≤ ws.length * (k + y.length) := by
  rw [TL.len_tl, join_tl, TL.len_tl y]
  have := joinL_len (S := TL.tl y) (k := k) (ws.map TL.tl) fun l hl => by
    obtain ⟨x, hx, rfl⟩ := List.mem_map.mp hl
    rw [← TL.len_tl]; exact h x hx
  rwa [List.length_map] at this
theorem dot_free {ns : List Int} (h : noOk ns) : (32 : Nat) ∉ TL.tl (dotS ns) := fun z => by
  unfold dotS at z
  rw [join_tl] at z
  rcases joinL_mem _ z with q | ⟨l, hl, q⟩
  · exact absurd q (by decide)
  · obtain ⟨x, hx, rfl⟩ := List.mem_map.mp hl
    obtain ⟨i, hi, rfl⟩ := List.mem_map.mp hx
    exact free_num (h.pos.2 i hi).1 (.inl (by decide)) q
theorem strk_free {m : Int × Int} (h : mkOk m) : (32 : Nat) ∉ TL.tl (strk m) := fun z => by
  obtain ⟨h1, h2⟩ := h
  unfold strk at z
  rw [join_tl] at z
  rcases joinL_mem _ z with q | ⟨l, hl, q⟩
  · exact absurd q (by decide)
  · simp at hl
    rcases hl with rfl | rfl
    · exact free_num (by omega) (.inl (by decide)) q
    · exact free_num (by omega) (.inl (by decide)) q
theorem dot_len {ns : List Int} (h : noOk ns) : (dotS ns).length ≤ 48 := by
  have h2 : (dotS ns).length ≤ (ns.map iS).length * (7 + 1) := join_len (y := ".") (k := 7) fun x hx => by
    obtain ⟨i, hi, rfl⟩ := List.mem_map.mp hx
    have := h.pos.2 i hi
    exact iS_len (by decide) this.1 (by omega)
  rw [List.length_map] at h2
  have := h.len
  omega
theorem strk_len {m : Int × Int} (h : mkOk m) : (strk m).length ≤ 16 := by
  obtain ⟨h1, h2⟩ := h
  exact join_len (y := "/") (k := 7) (ws := [iS m.1, iS m.2]) fun x hx => by
    simp at hx
    rcases hx with rfl | rfl
    · exact iS_len (by decide) (by omega) (by omega)
    · exact iS_len (by decide) (by omega) (by omega)
theorem str_eq {x y : Str} (h : eqD (.str x) (.str y) = true) : x = y := by simpa [eqD] using h
theorem str_ne {x y : Str} (h : eqD (.str x) (.str y) = false) : ¬ x = y := fun e => by subst e; simp [eqD] at h
theorem ch_eq {c : Nat} (h : eqD (.str ⟨#[c]⟩) (.str "0") = true) : c = 48 := by
  have e := congrArg TL.tl (str_eq h)
  have e2 : ([c] : List Nat) = [48] := e
  injection e2
theorem ch_ne {c : Nat} (h : eqD (.str ⟨#[c]⟩) (.str "0") = false) : ¬ c = 48 := fun e => str_ne h (TL.ext_tl (by subst e; rfl))
theorem fig_mem {c : Nat} (h : (decide (48 ≤ c) && decide (c ≤ 57)) = true) : c ∈ TL.tl "0123456789" := by
  simp only [Bool.and_eq_true, decide_eq_true_eq] at h
  have e : TL.tl "0123456789" = [48, 49, 50, 51, 52, 53, 54, 55, 56, 57] := rfl
  rw [e]
  simp
  omega
theorem mem_fig {c : Nat} (h : c ∈ TL.tl "0123456789") : (decide (48 ≤ c) && decide (c ≤ 57)) = true := by
  have e : TL.tl "0123456789" = [48, 49, 50, 51, 52, 53, 54, 55, 56, 57] := rfl
  rw [e] at h
  simp only [Bool.and_eq_true, decide_eq_true_eq]
  simp at h
  omega
theorem HandSX_int {x : Str} (h : digL (TL.tl x) = true) (hn : TL.tl x ≠ []) (hl : x.length ≤ 4300) : PySem.intText? x = some ((NumText.digitsVal (TL.tl x) : Nat) : Int) := by
  refine intText_digits (x := x) ?_ hn hl
  unfold digL at h
  rw [List.all_eq_true] at h
  intro c hc
  have := h c hc
  simp only [Bool.and_eq_true, decide_eq_true_eq] at this
  exact this
theorem sum_lens {k : Nat} : ∀ {ys : List Str}, (∀ x, x ∈ ys → x.length ≤ k) → (ys.map (·.length)).sum ≤ ys.length * k
  | [], _ => by simp
  | y :: ys, h => by
    have h1 := h y (by simp)
    have h2 := sum_lens (k := k) (ys := ys) fun z hz => h z (List.mem_cons_of_mem _ hz)
    simp only [List.map_cons, List.sum_cons, List.length_cons, Nat.add_mul]
    omega
theorem spl_le {S : List Nat} : ∀ (l : List Nat) (k : Nat) (acc p : List Nat), p ∈ TL.spl S k acc l → p.length ≤ acc.length + l.length
  | [], k, acc, p, h => by
    rw [TL.spl_nil] at h
    simp at h
    subst h
    omega
  | c :: r, 0, acc, p, h => by
    by_cases hp : TL.pre S (c :: r) = true
    · rw [TL.spl_hit hp] at h
      rcases List.mem_cons.mp h with rfl | h
      · omega
      · have := spl_le r _ _ _ h
        simp at this ⊢
        omega
    · rw [TL.spl_miss (by simpa using hp)] at h
      have := spl_le r _ _ _ h
      simp at this ⊢
      omega
  | c :: r, k + 1, acc, p, h => by
    have h : p ∈ TL.spl S k acc r := h
    have := spl_le r _ _ _ h
    simp
    omega
theorem split_part1 {x y p : Str} (hy : TL.tl y ≠ []) (hk : y.cps.all (· < 256) = true) (h : p ∈ Txt.split x y) : p.length ≤ x.length := by
  have e := TL.split_spl x y hy (TL.kind_ok hk)
  have hm : TL.tl p ∈ (Txt.split x y).map TL.tl := List.mem_map.mpr ⟨p, h, rfl⟩
  rw [e] at hm
  have := spl_le _ _ _ _ hm
  rw [TL.len_tl p, TL.len_tl x]
  simpa using this
def sepOk (y : Str) : Bool := y.cps.all (· < 256) && !y.cps.isEmpty
theorem split_part {x y p : Str} (h : p ∈ Txt.split x y) (hs : sepOk y = true := by decide +kernel) : p.length ≤ x.length := by
  unfold sepOk at hs
  simp only [Bool.and_eq_true, Bool.not_eq_true'] at hs
  refine split_part1 (fun e => ?_) hs.1 h
  have := hs.2
  have e2 : y.cps = #[] := Array.toList_inj.mp e
  rw [e2] at this
  cases this
theorem szT {x : Str} (h : shT x) : x.length + 2 ≤ sizeLine := by
  have : x.length ≤ 1000000 := h
  rw [sizeLine_eq]; omega
theorem tyD_oD {o : Option Int} : tyD (oD o) = true := by cases o <;> rfl
theorem tyA_wh {ls : List Str} : tyA (.nd .tup (ls.map fun p => oD (whF p))) = true := by
  unfold tyA
  have : (ls.map fun p => oD (whF p)).all tyD = true := by
    rw [List.all_eq_true]
    intro d hd
    obtain ⟨p, _, rfl⟩ := List.mem_map.mp hd
    exact tyD_oD
  exact this
theorem non_of {d : D} (h : nonD d = true) : d = .non := by cases d <;> first | rfl | cases h
theorem mkB_ex {d : D} (h : mkB d = true) : ∃ m, d = mkD m ∧ mkOk m := by
  unfold mkB at h
  split at h
  · rename_i ds
    rw [Bool.and_eq_true] at h
    match ds, of_decide_eq_true h.1, h.2 with
    | [a, b], _, h2 =>
      simp only [List.all_cons, List.all_nil, Bool.and_true, Bool.and_eq_true] at h2
      obtain ⟨i, hi, rfl⟩ := bt_ex h2.1
      obtain ⟨j, hj, rfl⟩ := bt_ex h2.2
      exact ⟨(i, j), rfl, hi, hj⟩
  · cases h
theorem pl_mk64 {m : Int × Int} : (mkD m).pl 64 = true := by simp [mkD, D.pl, Dspl]
theorem kinds_mem {x : Str} {ks : List Str} (h : (x, ks) ∈ tab_MADE_OF) : kindsOf x = some ks := by
  simp only [tab_MADE_OF, List.mem_cons, Prod.mk.injEq, List.not_mem_nil, or_false] at h
  rcases h with ⟨rfl, rfl⟩ | ⟨rfl, rfl⟩ | ⟨rfl, rfl⟩ | ⟨rfl, rfl⟩ | ⟨rfl, rfl⟩ | ⟨rfl, rfl⟩ | ⟨rfl, rfl⟩ | ⟨rfl, rfl⟩ | ⟨rfl, rfl⟩ <;> rfl
theorem kinds_no {x : Str} (h : ∀ ks, (x, ks) ∉ tab_MADE_OF) : kindsOf x = none := by
  unfold kindsOf
  rw [List.find?_eq_none.mpr fun p hp e => ?_]
  · rfl
  · have : p.1 = x := of_decide_eq_true e
    exact h p.2 (by rw [← this]; exact hp)
theorem len_ne {n m : Nat} (h : (!decide ((n : Int) + 1 = (m : Int) + 1)) = true) : ¬ n = m := fun e => by subst e; simp at h
theorem len_eq {n m : Nat} (h : (!decide ((n : Int) + 1 = (m : Int) + 1)) = false) : n = m := by simp at h; omega
theorem getD_at {ws : List Str} {k : Nat} (h : k < ws.length) : ws[k]? = some (ws.getD k "") := by
  rw [List.getD_eq_getElem?_getD, List.getElem?_eq_getElem h]; rfl
theorem map_get {ws : List Str} {k : Nat} {x : Str} (h : ws[k]? = some x) : (ws.map D.str)[k]? = some (.str x) := by
  rw [List.getElem?_map, h]; rfl
theorem split_len {x y : Str} : (Txt.split x y).length ≤ x.length + 2 := by
  have := PyProof.Rows.split_le x y
  omega
theorem split_ne {x y : Str} (hs : sepOk y = true := by decide +kernel) : Txt.split x y ≠ [] := fun e => by
  unfold sepOk at hs
  simp only [Bool.and_eq_true, Bool.not_eq_true'] at hs
  have hy : TL.tl y ≠ [] := fun e => by
    have e2 : y.cps = #[] := Array.toList_inj.mp e
    have := hs.2
    rw [e2] at this
    cases this
  have e2 := TL.split_spl x y hy (TL.kind_ok hs.1)
  rw [e] at e2
  have : ∀ (l : List Nat) (k : Nat) (acc : List Nat), TL.spl (TL.tl y) k acc l ≠ [] := by
    intro l
    induction l with
    | nil => intro k acc; rw [TL.spl_nil]; simp
    | cons c r ih =>
      intro k acc
      cases k with
      | zero =>
        by_cases hp : TL.pre (TL.tl y) (c :: r) = true
        · rw [TL.spl_hit hp]; simp
        · rw [TL.spl_miss (by simpa using hp)]; exact ih _ _
      | succ k => exact ih k acc
  exact this _ _ _ e2.symm
theorem enum_strs {ks : List Str} : enumD (ks.map D.str) = (List.range ks.length).map fun (k : Nat) => D.nd .tup [.int (k : Nat), .str (ks.getD k "")] := by
  unfold enumD
  apply List.ext_getElem?
  intro k
  rw [List.getElem?_zipWith, List.getElem?_map, List.getElem?_map, List.length_map]
  by_cases h : k < ks.length
  · have e : ks.getD k "" = ks[k] := by rw [List.getD_eq_getElem?_getD, List.getElem?_eq_getElem h]; rfl
    rw [List.getElem?_range h, List.getElem?_eq_getElem h]
    show some (D.nd .tup [.int (k : Nat), .str ks[k]]) = some (D.nd .tup [.int (k : Nat), .str (ks.getD k "")])
    rw [e]
  · rw [List.getElem?_eq_none (by simpa using h), Option.map_none]
theorem getD_at2 {ds : List D} {k : Nat} (h : k < ds.length) : ds[k]? = some (ds.getD k .non) := by
  rw [List.getD_eq_getElem?_getD, List.getElem?_eq_getElem h]; rfl
theorem all_zip : ∀ {ks : List Str} {r : List D}, r.length = ks.length → ((List.range ks.length).map fun k => madeB (ks.getD k "") (r.getD k .non)).all id = (ks.zip r).all fun p => madeB p.1 p.2 := by
  intro ks r h
  have e : ((List.range ks.length).map fun k => madeB (ks.getD k "") (r.getD k .non)) = (ks.zip r).map fun p => madeB p.1 p.2 := by
    apply List.ext_getElem?
    intro k
    rw [List.getElem?_map, List.getElem?_map]
    by_cases hk : k < ks.length
    · rw [List.getElem?_range hk, (List.getElem?_zip_eq_some (z := (ks.getD k "", r.getD k .non))).mpr ⟨getD_at hk, getD_at2 (by omega)⟩]
      rfl
    · rw [List.getElem?_eq_none (by simpa using hk), List.getElem?_eq_none (by rw [List.length_zip]; omega)]
      rfl
  rw [e, List.all_map]
  rfl
theorem pt_oD {n : Nat} {o : Option Int} : (oD o).pt n = true := by cases o <;> (cases n <;> rfl)
theorem pt_nuF {n : Nat} {x : Str} : (nuF x).pt (n + 1) = true := by
  unfold nuF
  split
  · exact pt_tup fun d hd => by
      obtain ⟨p, _, rfl⟩ := List.mem_map.mp hd
      exact pt_oD
  · rfl
theorem pt_mkF {n : Nat} {x : Str} : (mkF x).pt (n + 1) = true := by
  unfold mkF
  split
  · exact pt_tup fun d hd => by
      obtain ⟨p, _, rfl⟩ := List.mem_map.mp hd
      exact pt_oD
  · rfl
theorem pt_str {n : Nat} {x : Str} : (D.str x).pt n = true := by cases n <;> rfl
theorem din_pt {ws : List Str} : (dinT ws).d.pt 7 = true := by
  unfold dinT
  repeat' split
  · exact pt_tup (n := 6) fun d hd => by
      have hd : d ∈ [D.str (ws.getD 0 ""), D.nd .lst (prF (ws.drop 1))] := hd
      simp only [List.mem_cons, List.not_mem_nil, or_false] at hd
      rcases hd with rfl | rfl
      · exact pt_str
      · exact pt_lst (n := 5) fun e he => by
          obtain ⟨k, _, rfl⟩ := List.mem_map.mp he
          exact pt_tup (n := 4) fun f hf => by
            simp only [List.mem_cons, List.not_mem_nil, or_false] at hf
            rcases hf with rfl | rfl
            · exact pt_nuF
            · exact pt_mkF
  · exact pt_tup (n := 6) fun d hd => by
      have hd : d ∈ [D.str (ws.getD 0 ""), D.nd .lst ((ws.drop 1).map mkF)] := hd
      simp only [List.mem_cons, List.not_mem_nil, or_false] at hd
      rcases hd with rfl | rfl
      · exact pt_str
      · exact pt_lst (n := 5) fun e he => by
          obtain ⟨k, _, rfl⟩ := List.mem_map.mp he
          exact pt_mkF
  · exact pt_tup (n := 6) fun d hd => by
      simp only [List.mem_cons, List.not_mem_nil, or_false] at hd
      rcases hd with rfl | rfl
      · exact pt_str
      · exact pt_nuF
  · exact pt_tup (n := 6) fun d hd => by
      simp only [List.mem_cons, List.not_mem_nil, or_false] at hd
      rcases hd with rfl | rfl | rfl
      · exact pt_str
      · exact pt_nuF
      · exact pt_mkF
  · exact pt_tup (n := 6) fun d hd => by
      simp only [List.mem_cons, List.not_mem_nil, or_false] at hd
      rcases hd with rfl | rfl | rfl | rfl
      · exact pt_str
      · exact pt_nuF
      · exact pt_oD
      · exact pt_oD
  · exact pt_tup (n := 6) fun d hd => by
      simp only [List.mem_cons, List.not_mem_nil, or_false] at hd
      rcases hd with rfl | rfl
      · exact pt_str
      · exact pt_mkF
  · rfl
theorem din_cons {w0 : Str} {r : List Str} : dinT (w0 :: r) =
    if w0 = "regive" ∧ (r.length + 1) % 2 = 1 then .nd .tup [.fz (.str w0), .ow .lst (prF r)]
    else if w0 = "haul" then .nd .tup [.fz (.str w0), .ow .lst (r.map mkF)]
    else if w0 = "draw" ∧ r.length = 1 then .fz (.nd .tup [.str w0, nuF (r.getD 0 "")])
    else if w0 = "give" ∧ r.length = 2 then .fz (.nd .tup [.str w0, nuF (r.getD 0 ""), mkF (r.getD 1 "")])
    else if w0 = "crack" ∧ r.length = 3 then .fz (.nd .tup [.str w0, nuF (r.getD 0 ""), oD (whF (r.getD 1 "")), oD (whF (r.getD 2 ""))])
    else if r.length = 1 then .fz (.nd .tup [.str w0, mkF (r.getD 0 "")])
    else .fz .non := by
  unfold dinT
  simp only [List.length_cons, List.getD_cons_zero, List.getD_cons_succ, List.drop_succ_cons, List.drop_zero, Nat.reduceEqDiff]
theorem and_split {x y : Str} {p : Prop} [Decidable p] (h : (eqD (.str x) (.str y) && decide p) = true) : x = y ∧ p := by
  rw [Bool.and_eq_true] at h
  exact ⟨str_eq h.1, of_decide_eq_true h.2⟩
theorem not_and {x y : Str} {p : Prop} [Decidable p] (h : (eqD (.str x) (.str y) && decide p) = false) : ¬ (x = y ∧ p) := by
  rintro ⟨rfl, hp⟩
  rw [decide_eq_true hp, Bool.and_true] at h
  exact str_ne h rfl
theorem dd_flat {ps : List (List Int × (Int × Int))} : (ps.flatMap fun p => [dotS p.1, strk p.2]).length = 2 * ps.length := by
  induction ps with
  | nil => rfl
  | cons p r ih => rw [List.flatMap_cons, List.length_append, ih]; simp; omega
theorem wd_no {y : Str} (h : y ∈ (["regive", "haul", "draw", "give", "crack"] : List Str)) : y ∉ mkWs := by
  simp only [List.mem_cons, List.not_mem_nil, or_false] at h
  rcases h with rfl | rfl | rfl | rfl | rfl <;> decide +kernel
theorem wd_len {w : Str} (h : w ∈ mkWs) : w.length ≤ 48 ∧ (32 : Nat) ∉ TL.tl w := by
  simp only [mkWs, List.mem_cons, List.not_mem_nil, or_false] at h
  rcases h with rfl | rfl | rfl | rfl <;> exact ⟨by decide +kernel, by decide +kernel⟩
theorem dd_all {x : Dd} (h : x.ok) : x.w.length ≤ 49 ∧ ∀ y, y ∈ x.w → y.length ≤ 48 ∧ (32 : Nat) ∉ TL.tl y := by
  cases x with
  | num ns =>
    refine ⟨show (2 : Nat) ≤ 49 by decide, fun y hy => ?_⟩
    simp only [Dd.w, List.mem_cons, List.not_mem_nil, or_false] at hy
    rcases hy with rfl | rfl
    · exact ⟨by decide +kernel, by decide +kernel⟩
    · exact ⟨dot_len h, dot_free h⟩
  | give ns m =>
    refine ⟨show (3 : Nat) ≤ 49 by decide, fun y hy => ?_⟩
    simp only [Dd.w, List.mem_cons, List.not_mem_nil, or_false] at hy
    rcases hy with rfl | rfl | rfl
    · exact ⟨by decide +kernel, by decide +kernel⟩
    · exact ⟨dot_len h.1, dot_free h.1⟩
    · exact ⟨Nat.le_trans (strk_len h.2) (by decide), strk_free h.2⟩
  | crack ns a s =>
    obtain ⟨h1, h2, h3⟩ := h
    refine ⟨show (4 : Nat) ≤ 49 by decide, fun y hy => ?_⟩
    simp only [Dd.w, List.mem_cons, List.not_mem_nil, or_false] at hy
    rcases hy with rfl | rfl | rfl | rfl
    · exact ⟨by decide +kernel, by decide +kernel⟩
    · exact ⟨dot_len h1, dot_free h1⟩
    · exact ⟨Nat.le_trans (iS_len (k := 7) (by decide) h2.1 (by omega)) (by decide), free_num h2.1 (.inl (by decide))⟩
    · exact ⟨Nat.le_trans (iS_len (k := 7) (by decide) (by omega) (by omega)) (by decide), free_num (by omega) (.inl (by decide))⟩
  | mark w m =>
    refine ⟨show (2 : Nat) ≤ 49 by decide, fun y hy => ?_⟩
    simp only [Dd.w, List.mem_cons, List.not_mem_nil, or_false] at hy
    rcases hy with rfl | rfl
    · exact wd_len h.1
    · exact ⟨Nat.le_trans (strk_len h.2) (by decide), strk_free h.2⟩
  | pairs ps =>
    obtain ⟨h1, h2, h3⟩ := h
    refine ⟨?_, fun y hy => ?_⟩
    · have := dd_flat (ps := ps)
      show (ps.flatMap fun p => [dotS p.1, strk p.2]).length + 1 ≤ 49
      omega
    · simp only [Dd.w, List.mem_cons, List.mem_flatMap, List.not_mem_nil, or_false] at hy
      rcases hy with rfl | ⟨p, hp, rfl | rfl⟩
      · exact ⟨by decide +kernel, by decide +kernel⟩
      · exact ⟨dot_len (h3 p hp).1, dot_free (h3 p hp).1⟩
      · exact ⟨Nat.le_trans (strk_len (h3 p hp).2) (by decide), strk_free (h3 p hp).2⟩
  | marks ms =>
    obtain ⟨h1, h2, h3, _⟩ := h
    refine ⟨?_, fun y hy => ?_⟩
    · show (ms.map strk).length + 1 ≤ 49
      rw [List.length_map]
      omega
    · simp only [Dd.w, List.mem_cons, List.mem_map] at hy
      rcases hy with rfl | ⟨m, hm, rfl⟩
      · exact ⟨by decide +kernel, by decide +kernel⟩
      · exact ⟨Nat.le_trans (strk_len (h3 m hm)) (by decide), strk_free (h3 m hm)⟩
theorem dd_ws {x : Dd} (h : x.ok) : x.w.length ≤ 49 ∧ ∀ y, y ∈ x.w → y.length ≤ 48 := ⟨(dd_all h).1, fun y hy => ((dd_all h).2 y hy).1⟩
theorem all_mapB {α : Type} {l : List α} {f : α → D} {g : D → Bool} (h : ∀ a, a ∈ l → g (f a) = true) : (l.map f).all g = true := by
  rw [List.all_eq_true]
  intro d hd
  obtain ⟨a, ha, rfl⟩ := List.mem_map.mp hd
  exact h a ha
theorem mkD_ne {m n : Int × Int} (h : m ≠ n) : eqD (mkD m) (mkD n) = false := by
  cases e : eqD (mkD m) (mkD n) with
  | false => rfl
  | true =>
    exfalso
    simp [mkD, eqD, eqDs] at e
    exact h (Prod.ext e.1 e.2)
theorem join_dd {x : Dd} (ho : x.ok) {Q' : T → Prop} (q : Q' (.fz (.str (ddTxt x)))) : joinG " " (.ow .lst (x.w.map .str)) Q' := by
  refine ⟨x.w, rfl, ?_, q⟩
  obtain ⟨h1, h2⟩ := dd_ws ho
  have h3 := sum_lens h2
  have h4 : Str.length " " = 1 := rfl
  rw [h4]
  omega
theorem strk_eq {m : Int × Int} : iS m.1 ++ ("/" : Str) ++ iS m.2 = strk m := by
  apply TL.ext_tl
  unfold strk
  rw [join_tl, TL.tl_append, TL.tl_append]
  show _ = TL.tl (iS m.1) ++ (TL.tl "/" ++ TL.tl (iS m.2))
  rw [List.append_assoc]
theorem dd_len {x : Dd} (h : x.ok) : (ddTxt x).length ≤ 2401 := by
  obtain ⟨h1, h2⟩ := dd_ws h
  have h3 := join_len (y := " ") h2
  have h4 : Str.length " " = 1 := rfl
  rw [h4] at h3
  exact Nat.le_trans h3 (Nat.mul_le_mul_right _ h1)
theorem sml_ns {n : Nat} {ns : List Int} (h : noOk ns) : sml 846 (n + 1) (nsD ns) := sml_tupD (k := 140) (m := 6) (fun d hd => by
  obtain ⟨i, hi, rfl⟩ := List.mem_map.mp hd
  have := h.pos.2 i hi
  exact sml_int ⟨by omega, by omega⟩) (by rw [List.length_map]; exact h.len)
theorem sml_mk {n : Nat} {m : Int × Int} (h : mkOk m) : sml 282 (n + 1) (mkD m) := sml_tupD (k := 140) (m := 2) (fun d hd => by
  obtain ⟨h1, h2⟩ := h
  simp at hd
  rcases hd with rfl | rfl
  · exact sml_int ⟨by omega, by omega⟩
  · exact sml_int ⟨by omega, by omega⟩) (by simp)
theorem sml_wd {n : Nat} {w : Str} (h : w ∈ (["draw", "give", "crack", "regive", "haul"] : List Str) ∨ w ∈ mkWs) : sml 10 n (.str w) := by
  simp only [mkWs, List.mem_cons, List.not_mem_nil, or_false] at h
  rcases h with (rfl | rfl | rfl | rfl | rfl) | (rfl | rfl | rfl | rfl) <;> exact sml_strL (by decide +kernel) (by decide +kernel)
def lnumS : SemF := fun args Q E => ∃ t, args = [t] ∧ IsBag t ∧ ∀ ns t', noOk ns → IsBag t' → Q (.fz (nsD ns)) [t']
def lmarkS : SemF := fun args Q E => ∃ t, args = [t] ∧ IsBag t ∧ ∀ m t', mkOk m → IsBag t' → Q (.fz (mkD m)) [t']
def lmarksS : SemF := fun args Q E => ∃ t, args = [t] ∧ IsBag t ∧ ∀ ms t', ms ≠ [] → ms.length ≤ 2 → (∀ m, m ∈ ms → mkOk m) → ms.Nodup → IsBag t' → Q (.fz (.nd .lst (ms.map mkD))) [t']
def ldeedS : SemF := fun args Q E => ∃ t, args = [t] ∧ IsBag t ∧ ∀ x t', Dd.ok x → IsBag t' → Q (.fz x.d) [t']

def inR (lo hi : Int) (o : Option Int) : Option Int := o.filter fun v => decide (lo ≤ v) && decide (v ≤ hi)
theorem dig_ge : ∀ (l : List Nat) (a : Nat), a * 10 ^ l.length ≤ l.foldl (fun acc c => acc * 10 + (c - 48)) a
  | [], a => by simp
  | c :: r, a => by
    rw [List.foldl_cons, List.length_cons]
    have := dig_ge r (a * 10 + (c - 48))
    have h2 : a * 10 ^ (r.length + 1) = a * 10 * 10 ^ r.length := by rw [Nat.pow_succ, Nat.mul_assoc, Nat.mul_comm 10]
    rw [h2]
    exact Nat.le_trans (Nat.mul_le_mul_right _ (by omega)) this
theorem dig_big {l : List Nat} (h : l.head? ≠ some 48) (hd : digL l = true) (hl : 22 < l.length) : 10 ^ 22 ≤ NumText.digitsVal l := by
  cases l with
  | nil => simp at hl
  | cons c r =>
    unfold digL at hd
    rw [List.all_cons, Bool.and_eq_true] at hd
    have hc : 48 ≤ c ∧ c ≤ 57 := by simpa using hd.1
    have hc2 : c ≠ 48 := fun e => h (by rw [e]; rfl)
    have e : NumText.digitsVal (c :: r) = r.foldl (fun acc c => acc * 10 + (c - 48)) (c - 48) := by
      unfold NumText.digitsVal
      rw [List.foldl_cons]
      congr 1
      omega
    rw [e]
    have h1 := dig_ge r (c - 48)
    have h2 : 10 ^ 22 ≤ 10 ^ r.length := Nat.pow_le_pow_right (by decide) (by simp at hl; omega)
    have h3 : 1 * 10 ^ r.length ≤ (c - 48) * 10 ^ r.length := Nat.mul_le_mul_right _ (by omega)
    omega
theorem wh_none {x : Str} (h : TL.tl x = [] ∨ 22 < x.length ∨ ((TL.tl x).head? = some 48 ∧ 1 < x.length) ∨ digL (TL.tl x) = false) : whF x = none := if_pos h
theorem wh_some {x : Str} (h : ¬ (TL.tl x = [] ∨ 22 < x.length ∨ ((TL.tl x).head? = some 48 ∧ 1 < x.length) ∨ digL (TL.tl x) = false)) : whF x = some ((NumText.digitsVal (TL.tl x) : Nat) : Int) := if_neg h
theorem lw_eq {x : Str} {lo hi : Int} (h0 : 0 ≤ lo) (h1 : hi ≤ 1000000) (n1 : TL.tl x ≠ []) (n3 : ¬ ((TL.tl x).head? = some 48 ∧ 1 < x.length)) (n4 : digL (TL.tl x) = true) :
    inR lo hi (whF x) = if lo ≤ ((NumText.digitsVal (TL.tl x) : Nat) : Int) ∧ ((NumText.digitsVal (TL.tl x) : Nat) : Int) ≤ hi then some ((NumText.digitsVal (TL.tl x) : Nat) : Int) else none := by
  by_cases h22 : 22 < x.length
  · rw [wh_none (.inr (.inl h22))]
    have hh : (TL.tl x).head? ≠ some 48 := fun e => n3 ⟨e, by omega⟩
    have := dig_big hh n4 (by rw [← TL.len_tl]; exact h22)
    rw [if_neg]
    · rfl
    · rintro ⟨_, h⟩
      have h5 : (10 : Nat) ^ 22 = 10000000000000000000000 := by decide
      omega
  · rw [wh_some]
    · unfold inR
      rw [Option.filter_some]
      by_cases hr : lo ≤ ((NumText.digitsVal (TL.tl x) : Nat) : Int) ∧ ((NumText.digitsVal (TL.tl x) : Nat) : Int) ≤ hi
      · rw [if_pos hr, if_pos (by simpa using hr)]
      · rw [if_neg hr, if_neg (by simpa using hr)]
    · rintro (q | q | q | q)
      · exact n1 q
      · exact h22 q
      · exact n3 q
      · rw [n4] at q; cases q
def lwS : SemF := fun args Q E => ∃ (x : Str) (lo hi : Int), args = [.fz (.str x), .fz (.int lo), .fz (.int hi)] ∧ shT x ∧ 0 ≤ lo ∧ hi ≤ 1000000 ∧ Q (.fz (oD (inR lo hi (whF x)))) []
def topK (k : Nat) : Int := if k = 0 then 24 else 4
theorem bt_oD {o : Option Int} {lo hi : Int} : btB (oD o) lo hi = (inR lo hi o).isSome := by
  cases o with
  | none => rfl
  | some v =>
    unfold inR
    rw [Option.filter_some]
    show decide (lo ≤ v ∧ v ≤ hi) = _
    by_cases h : lo ≤ v ∧ v ≤ hi
    · rw [if_pos (by simpa using h), decide_eq_true h]; rfl
    · rw [if_neg (by simpa using h), decide_eq_false h]; rfl
theorem inR_eq {o : Option Int} {lo hi : Int} (h : (inR lo hi o).isSome = true) : inR lo hi o = o := by
  cases o with
  | none => rfl
  | some v =>
    unfold inR at h ⊢
    rw [Option.filter_some] at h ⊢
    split at h
    · rename_i z; rw [if_pos z]
    · cases h
def lnL (ws : List Str) : List (Option Int) := match ws with | [] => [] | w :: r => inR 1 24 (whF w) :: r.map fun p => inR 1 4 (whF p)
theorem map_inR {lo hi : Int} : ∀ {ws : List Str}, (∀ o, o ∈ ws.map (fun p => inR lo hi (whF p)) → o.isSome = true) → ws.map (fun p => oD (inR lo hi (whF p))) = ws.map fun p => oD (whF p)
  | [], _ => rfl
  | w :: r, h => by
    rw [List.map_cons, List.map_cons, inR_eq (h _ (by simp)), map_inR (ws := r) fun o ho => h o (by rw [List.map_cons]; exact List.mem_cons_of_mem _ ho)]
theorem nu_law {x : Str} : nuF x = if 6 < (Txt.split x ".").length ∨ none ∈ lnL (Txt.split x ".") then .non else .nd .tup ((lnL (Txt.split x ".")).map oD) := by
  have hne : Txt.split x "." ≠ [] := split_ne
  unfold nuF
  revert hne
  generalize Txt.split x "." = ws
  intro hne
  cases ws with
  | nil => exact absurd rfl hne
  | cons w r =>
    have e : nuB (.nd .tup ((w :: r).map fun p => oD (whF p))) = ((decide ((1 : Int) ≤ (((w :: r).map fun p => oD (whF p)).length : Nat)) && decide ((((w :: r).map fun p => oD (whF p)).length : Nat) ≤ (6 : Int))) && ((btB (oD (whF w)) 1 24 && true) && (r.map fun p => oD (whF p)).all fun d => btB d 1 4)) := rfl
    rw [e]
    have some_ : ¬ none ∈ lnL (w :: r) → ∀ o, o ∈ lnL (w :: r) → o.isSome = true := fun hn o ho => by
      cases o with
      | none => exact absurd ho hn
      | some _ => rfl
    by_cases hl : 6 < (w :: r).length
    · have hc : ¬ ((decide ((1 : Int) ≤ (((w :: r).map fun p => oD (whF p)).length : Nat)) && decide ((((w :: r).map fun p => oD (whF p)).length : Nat) ≤ (6 : Int))) && ((btB (oD (whF w)) 1 24 && true) && (r.map fun p => oD (whF p)).all fun d => btB d 1 4)) = true := by
        simp only [List.length_map, Bool.and_eq_true, decide_eq_true_eq]
        rintro ⟨⟨_, h⟩, _⟩
        omega
      rw [if_neg hc, if_pos (.inl hl)]
    · by_cases hn : none ∈ lnL (w :: r)
      · have hc : ¬ ((decide ((1 : Int) ≤ (((w :: r).map fun p => oD (whF p)).length : Nat)) && decide ((((w :: r).map fun p => oD (whF p)).length : Nat) ≤ (6 : Int))) && ((btB (oD (whF w)) 1 24 && true) && (r.map fun p => oD (whF p)).all fun d => btB d 1 4)) = true := by
          intro h
          rw [Bool.and_eq_true, Bool.and_true] at h
          obtain ⟨_, h⟩ := h
          rw [Bool.and_eq_true] at h
          obtain ⟨h1, h2⟩ := h
          rw [bt_oD] at h1
          rcases List.mem_cons.mp hn with q | q
          · rw [← q] at h1; cases h1
          · obtain ⟨p, hp, q⟩ := List.mem_map.mp q
            have := List.all_eq_true.mp h2 (oD (whF p)) (List.mem_map.mpr ⟨p, hp, rfl⟩)
            rw [bt_oD, q] at this
            cases this
        rw [if_neg hc, if_pos (.inr hn)]
      · have s1 : (inR 1 24 (whF w)).isSome = true := some_ hn _ List.mem_cons_self
        have s2 : ∀ o, o ∈ r.map (fun p => inR 1 4 (whF p)) → o.isSome = true := fun o ho => some_ hn _ (List.mem_cons_of_mem _ ho)
        have hc : ((decide ((1 : Int) ≤ (((w :: r).map fun p => oD (whF p)).length : Nat)) && decide ((((w :: r).map fun p => oD (whF p)).length : Nat) ≤ (6 : Int))) && ((btB (oD (whF w)) 1 24 && true) && (r.map fun p => oD (whF p)).all fun d => btB d 1 4)) = true := by
          rw [Bool.and_true, Bool.and_eq_true, Bool.and_eq_true, Bool.and_eq_true]
          refine ⟨⟨decide_eq_true (by simp; omega), decide_eq_true (by simp at hl ⊢; omega)⟩, by rw [bt_oD]; exact s1, ?_⟩
          rw [List.all_eq_true]
          intro d hd
          obtain ⟨p, hp, rfl⟩ := List.mem_map.mp hd
          rw [bt_oD]
          exact s2 _ (List.mem_map.mpr ⟨p, hp, rfl⟩)
        rw [if_pos hc, if_neg (by rintro (q | q); exact hl q; exact hn q)]
        show D.nd .tup (oD (whF w) :: r.map (fun p => oD (whF p))) = D.nd .tup (oD (inR 1 24 (whF w)) :: (r.map fun p => inR 1 4 (whF p)).map oD)
        rw [inR_eq s1, List.map_map]
        have e3 := map_inR s2
        show D.nd .tup (oD (whF w) :: r.map (fun p => oD (whF p))) = D.nd .tup (oD (whF w) :: r.map (fun p => oD (inR 1 4 (whF p))))
        rw [e3]
theorem mk_law {x : Str} : mkF x = if ¬ (Txt.split x "/").length = 2 ∨ none ∈ (Txt.split x "/").map (fun p => inR 1 24 (whF p)) then .non else .nd .tup ((Txt.split x "/").map fun p => oD (inR 1 24 (whF p))) := by
  unfold mkF
  generalize Txt.split x "/" = ws
  have e : mkB (.nd .tup (ws.map fun p => oD (whF p))) = (decide ((ws.map fun p => oD (whF p)).length = 2) && (ws.map fun p => oD (whF p)).all fun d => btB d 1 24) := rfl
  rw [e, List.length_map]
  by_cases hl : ws.length = 2
  · by_cases hn : none ∈ ws.map (fun p => inR 1 24 (whF p))
    · have hc : ¬ (decide (ws.length = 2) && (ws.map fun p => oD (whF p)).all fun d => btB d 1 24) = true := by
        intro h
        rw [Bool.and_eq_true] at h
        obtain ⟨p, hp, q⟩ := List.mem_map.mp hn
        have := List.all_eq_true.mp h.2 (oD (whF p)) (List.mem_map.mpr ⟨p, hp, rfl⟩)
        rw [bt_oD, q] at this
        cases this
      rw [if_neg hc, if_pos (.inr hn)]
    · have s2 : ∀ o, o ∈ ws.map (fun p => inR 1 24 (whF p)) → o.isSome = true := fun o ho => by
        cases o with
        | none => exact absurd ho hn
        | some _ => rfl
      have hc : (decide (ws.length = 2) && (ws.map fun p => oD (whF p)).all fun d => btB d 1 24) = true := by
        rw [decide_eq_true hl, Bool.true_and, List.all_eq_true]
        intro d hd
        obtain ⟨p, hp, rfl⟩ := List.mem_map.mp hd
        rw [bt_oD]
        exact s2 _ (List.mem_map.mpr ⟨p, hp, rfl⟩)
      rw [if_pos hc, if_neg (by rintro (q | q); exact q hl; exact hn q), map_inR s2]
  · have hc : ¬ (decide (ws.length = 2) && (ws.map fun p => oD (whF p)).all fun d => btB d 1 24) = true := by
      rw [decide_eq_false hl, Bool.false_and]; decide
    rw [if_neg hc, if_pos (.inl hl)]
theorem bts_ex {lo hi : Int} : ∀ {r : List D}, r.all (fun d => btB d lo hi) = true → ∃ is : List Int, r = is.map .int ∧ ∀ x, x ∈ is → lo ≤ x ∧ x ≤ hi
  | [], _ => ⟨[], rfl, by simp⟩
  | b :: r, h4 => by
    rw [List.all_cons, Bool.and_eq_true] at h4
    obtain ⟨is, e, hh⟩ := bts_ex h4.2
    obtain ⟨j, hj, rfl⟩ := bt_ex h4.1
    exact ⟨j :: is, by rw [List.map_cons, e], fun x hx => by
      rcases List.mem_cons.mp hx with rfl | hx
      · exact hj
      · exact hh x hx⟩
theorem nu_ex {d : D} (h : nuB d = true) : ∃ ns, d = nsD ns ∧ noOk ns := by
  unfold nuB at h
  split at h
  · rename_i ds
    rw [Bool.and_eq_true, Bool.and_eq_true, Bool.and_eq_true] at h
    obtain ⟨⟨h1, h2⟩, h3, h4⟩ := h
    match ds, h1, h2, h3, h4 with
    | [], h1, _, _, _ => simp at h1
    | a :: r, _, h2, h3, h4 =>
      simp only [List.take_succ_cons, List.take_zero, List.all_cons, List.all_nil, Bool.and_true] at h3
      obtain ⟨i, hi, rfl⟩ := bt_ex h3
      have h4 : r.all (fun d => btB d 1 4) = true := h4
      have := bts_ex h4
      obtain ⟨is, rfl, hh⟩ := this
      refine ⟨i :: is, rfl, i, is, rfl, hi, ?_, hh⟩
      have := of_decide_eq_true h2
      simp at this
      omega
  · cases h
theorem nu_is {x : Str} : nuF x = .non ∨ ∃ ns, nuF x = nsD ns ∧ noOk ns := by
  unfold nuF
  split
  · rename_i h
    exact .inr (nu_ex h)
  · exact .inl rfl
theorem mk_is {x : Str} : mkF x = .non ∨ ∃ m, mkF x = mkD m ∧ mkOk m := by
  unfold mkF
  split
  · rename_i h
    exact .inr (mkB_ex h)
  · exact .inl rfl
def okD (d : D) : D := if deedB d = true then d else .non
theorem okD_f {d : D} (h : deedB d = false) : okD d = .non := by unfold okD; rw [h]; rfl
theorem okD_t {d : D} (h : deedB d = true) : okD d = d := by unfold okD; rw [h]; rfl
theorem nuB_nu {x : Str} : nuB (nuF x) = !nonD (nuF x) := by
  rcases nu_is (x := x) with e | ⟨ns, e, h⟩
  · rw [e]; rfl
  · rw [e, nuB_ok h]; rfl
theorem mkB_mk {x : Str} : mkB (mkF x) = !nonD (mkF x) := by
  rcases mk_is (x := x) with e | ⟨ns, e, h⟩
  · rw [e]; rfl
  · rw [e, mkB_ok h]; rfl
theorem deed1 {w : Str} {k : Str} {a : D} (h : kindsOf w = some [k]) : deedB (.nd .tup [.str w, a]) = madeB k a := by
  show (match kindsOf w with | some ks => decide ([a].length = ks.length) && (ks.zip [a]).all fun p => madeB p.1 p.2 | none => false) = _
  rw [h]
  show (decide (1 = 1) && (madeB k a && true)) = _
  rw [Bool.and_true]; rfl
theorem deed2 {w : Str} {k l : Str} {a b : D} (h : kindsOf w = some [k, l]) : deedB (.nd .tup [.str w, a, b]) = (madeB k a && madeB l b) := by
  show (match kindsOf w with | some ks => decide ([a, b].length = ks.length) && (ks.zip [a, b]).all fun p => madeB p.1 p.2 | none => false) = _
  rw [h]
  show (decide (2 = 2) && (madeB k a && (madeB l b && true))) = _
  rw [Bool.and_true]; rfl
theorem deed3 {w : Str} {k l m : Str} {a b c : D} (h : kindsOf w = some [k, l, m]) : deedB (.nd .tup [.str w, a, b, c]) = (madeB k a && (madeB l b && madeB m c)) := by
  show (match kindsOf w with | some ks => decide ([a, b, c].length = ks.length) && (ks.zip [a, b, c]).all fun p => madeB p.1 p.2 | none => false) = _
  rw [h]
  show (decide (3 = 3) && (madeB k a && (madeB l b && (madeB m c && true)))) = _
  rw [Bool.and_true]; rfl
theorem deed0 {w : Str} {a : D} (h : ∀ k, kindsOf w ≠ some [k]) : deedB (.nd .tup [.str w, a]) = false := by
  show (match kindsOf w with | some ks => decide ([a].length = ks.length) && (ks.zip [a]).all fun p => madeB p.1 p.2 | none => false) = _
  cases e : kindsOf w with
  | none => rfl
  | some ks =>
    have : ¬ [a].length = ks.length := fun z => by
      match ks, z, e with
      | [k], _, e => exact h k e
      | [], z, _ => simp at z
      | _ :: _ :: _, z, _ => simp at z
    show (decide ([a].length = ks.length) && _) = false
    rw [decide_eq_false this]; rfl
theorem prs_mk {x : Str} : prsB (mkF x) = false := by
  rcases mk_is (x := x) with e | ⟨m, e, h⟩ <;> rw [e] <;> rfl
theorem prs_ex {d : D} (h : prsB d = true) : ∃ ps : List (List Int × (Int × Int)), d = .nd .lst (ps.map prD) ∧ ps ≠ [] ∧ ps.length ≤ 24 ∧ ∀ p, p ∈ ps → noOk p.1 ∧ mkOk p.2 := by
  unfold prsB at h
  split at h
  · rename_i ds
    rw [Bool.and_eq_true, Bool.and_eq_true] at h
    obtain ⟨⟨h1, h2⟩, h3⟩ := h
    have key : ∀ ds : List D, ds.all prB = true → ∃ ps : List (List Int × (Int × Int)), ds = ps.map prD ∧ ∀ p, p ∈ ps → noOk p.1 ∧ mkOk p.2 := by
      intro ds
      induction ds with
      | nil => intro _; exact ⟨[], rfl, by simp⟩
      | cons a r ih =>
        intro h
        rw [List.all_cons, Bool.and_eq_true] at h
        obtain ⟨ps, e, hp⟩ := ih h.2
        have ha := h.1
        unfold prB at ha
        split at ha
        · rename_i x y
          rw [Bool.and_eq_true] at ha
          obtain ⟨ns, rfl, hn⟩ := nu_ex ha.1
          obtain ⟨m, rfl, hm⟩ := mkB_ex ha.2
          exact ⟨(ns, m) :: ps, by rw [List.map_cons, e], fun p q => by
            rcases List.mem_cons.mp q with rfl | q
            · exact ⟨hn, hm⟩
            · exact hp p q⟩
        · cases ha
    obtain ⟨ps, rfl, hp⟩ := key ds h3
    have h1 := of_decide_eq_true h1
    have h2 := of_decide_eq_true h2
    rw [List.length_map] at h1 h2
    exact ⟨ps, rfl, fun e => by subst e; simp at h1, by omega, hp⟩
  · cases h
theorem mks_ex {d : D} (h : mksB d = true) : ∃ ms : List (Int × Int), d = .nd .lst (ms.map mkD) ∧ ms ≠ [] ∧ ms.length ≤ 2 ∧ (∀ m, m ∈ ms → mkOk m) ∧ ms.Nodup := by
  unfold mksB at h
  split at h
  · rename_i ds
    rw [Bool.and_eq_true, Bool.and_eq_true, Bool.and_eq_true] at h
    obtain ⟨⟨h1, h2⟩, h3, h4⟩ := h
    have key : ∀ ds : List D, ds.all mkB = true → ∃ ms : List (Int × Int), ds = ms.map mkD ∧ ∀ m, m ∈ ms → mkOk m := by
      intro ds
      induction ds with
      | nil => intro _; exact ⟨[], rfl, by simp⟩
      | cons a r ih =>
        intro h
        rw [List.all_cons, Bool.and_eq_true] at h
        obtain ⟨ps, e, hp⟩ := ih h.2
        obtain ⟨m, rfl, hm⟩ := mkB_ex h.1
        exact ⟨m :: ps, by rw [List.map_cons, e], fun p q => by
          rcases List.mem_cons.mp q with rfl | q
          · exact hm
          · exact hp p q⟩
    obtain ⟨ms, rfl, hp⟩ := key ds h3
    have h1 := of_decide_eq_true h1
    have h2 := of_decide_eq_true h2
    rw [List.length_map] at h1 h2
    refine ⟨ms, rfl, fun e => by subst e; simp at h1, by omega, hp, ?_⟩
    match ms, h2, h4 with
    | [], _, _ => simp
    | [_], _, _ => simp
    | [a, b], _, h4 =>
      have h4 : (!eqD (mkD a) (mkD b)) = true := h4
      simp only [List.nodup_cons, List.mem_singleton, List.not_mem_nil, not_false_eq_true, List.nodup_nil, and_true]
      intro e
      subst e
      rw [eqD_self 64 _ pl_mk64] at h4
      cases h4
    | _ :: _ :: _ :: _, h2, _ => simp at h2; omega
  · cases h
theorem deed_ex {d : D} (h : deedB d = true) : ∃ x : Dd, x.ok ∧ d = x.d := by
  unfold deedB at h
  split at h
  · rename_i z r
    split at h
    · rename_i ks hk
      rw [Bool.and_eq_true] at h
      obtain ⟨hl, ha⟩ := h
      have hl := of_decide_eq_true hl
      have hm : (z, ks) ∈ tab_MADE_OF := by
        unfold kindsOf at hk
        cases e : tab_MADE_OF.find? fun p => decide (p.1 = z) with
        | none => rw [e] at hk; cases hk
        | some p =>
          rw [e] at hk
          have h1 := List.mem_of_find?_eq_some e
          have h2 : p.1 = z := of_decide_eq_true (List.find?_some (p := fun p : Str × List Str => decide (p.1 = z)) e)
          have h3 : p.2 = ks := Option.some.inj hk
          rw [← h2, ← h3]
          exact h1
      have one : ∀ {k : Str}, ks = [k] → ∃ a, r = [a] ∧ madeB k a = true := fun {k} e => by
        subst e
        match r, hl, ha with
        | [a], _, ha => exact ⟨a, rfl, by simpa using ha⟩
      simp only [tab_MADE_OF, List.mem_cons, Prod.mk.injEq, List.not_mem_nil, or_false] at hm
      rcases hm with ⟨rfl, e⟩ | ⟨rfl, e⟩ | ⟨rfl, e⟩ | ⟨rfl, e⟩ | ⟨rfl, e⟩ | ⟨rfl, e⟩ | ⟨rfl, e⟩ | ⟨rfl, e⟩ | ⟨rfl, e⟩
      · obtain ⟨a, rfl, h⟩ := one e
        obtain ⟨ns, rfl, hn⟩ := nu_ex (show nuB a = true from h)
        exact ⟨.num ns, hn, rfl⟩
      · subst e
        match r, hl, ha with
        | [a, b], _, ha =>
          have ha : (madeB "number" a && (madeB "mark" b && true)) = true := ha
          rw [Bool.and_true, Bool.and_eq_true] at ha
          obtain ⟨ns, rfl, hn⟩ := nu_ex (show nuB a = true from ha.1)
          obtain ⟨m, rfl, hm⟩ := mkB_ex (show mkB b = true from ha.2)
          exact ⟨.give ns m, ⟨hn, hm⟩, rfl⟩
      · obtain ⟨a, rfl, h⟩ := one e
        obtain ⟨ps, rfl, h1, h2, h3⟩ := prs_ex (show prsB a = true from h)
        exact ⟨.pairs ps, ⟨h1, h2, h3⟩, rfl⟩
      · obtain ⟨a, rfl, h⟩ := one e
        obtain ⟨m, rfl, hm⟩ := mkB_ex (show mkB a = true from h)
        exact ⟨.mark "leave" m, ⟨by simp [mkWs], hm⟩, rfl⟩
      · obtain ⟨a, rfl, h⟩ := one e
        obtain ⟨m, rfl, hm⟩ := mkB_ex (show mkB a = true from h)
        exact ⟨.mark "dress" m, ⟨by simp [mkWs], hm⟩, rfl⟩
      · subst e
        match r, hl, ha with
        | [a, b, c], _, ha =>
          have ha : (madeB "number" a && (madeB "axis" b && (madeB "measure" c && true))) = true := ha
          rw [Bool.and_true, Bool.and_eq_true, Bool.and_eq_true] at ha
          obtain ⟨ns, rfl, hn⟩ := nu_ex (show nuB a = true from ha.1)
          obtain ⟨i, hi, rfl⟩ := bt_ex (show btB b 0 2 = true from ha.2.1)
          obtain ⟨j, hj, rfl⟩ := bt_ex (show btB c 1 1000000 = true from ha.2.2)
          exact ⟨.crack ns i j, ⟨hn, hi, hj⟩, rfl⟩
      · obtain ⟨a, rfl, h⟩ := one e
        obtain ⟨ms, rfl, h1, h2, h3, h4⟩ := mks_ex (show mksB a = true from h)
        exact ⟨.marks ms, ⟨h1, h2, h3, h4⟩, rfl⟩
      · obtain ⟨a, rfl, h⟩ := one e
        obtain ⟨m, rfl, hm⟩ := mkB_ex (show mkB a = true from h)
        exact ⟨.mark "lay" m, ⟨by simp [mkWs], hm⟩, rfl⟩
      · obtain ⟨a, rfl, h⟩ := one e
        obtain ⟨m, rfl, hm⟩ := mkB_ex (show mkB a = true from h)
        exact ⟨.mark "lift" m, ⟨by simp [mkWs], hm⟩, rfl⟩
    · cases h
  · cases h
def dueD (ws : List Str) : D := okD (dinT ws).d
theorem due_haul {r : List Str} : dueD ("haul" :: r) = if mksB (.nd .lst (r.map mkF)) = true then .nd .tup [.str "haul", .nd .lst (r.map mkF)] else .non := by
  unfold dueD
  rw [din_cons, if_neg (fun z => absurd z.1 (by decide +kernel)), if_pos rfl]
  show okD (.nd .tup [.str "haul", .nd .lst (r.map mkF)]) = _
  unfold okD
  rw [deed1 (k := "marks") rfl]
  rfl
theorem due_regive {r : List Str} : dueD ("regive" :: r) = if r.length % 2 = 0 ∧ prsB (.nd .lst (prF r)) = true then .nd .tup [.str "regive", .nd .lst (prF r)] else .non := by
  unfold dueD
  rw [din_cons]
  by_cases hp : r.length % 2 = 0
  · rw [if_pos ⟨rfl, by omega⟩]
    show okD (.nd .tup [.str "regive", .nd .lst (prF r)]) = _
    unfold okD
    rw [deed1 (k := "pairs") rfl]
    show (if prsB (.nd .lst (prF r)) = true then _ else _) = _
    by_cases h : prsB (.nd .lst (prF r)) = true
    · rw [if_pos h, if_pos ⟨hp, h⟩]
    · rw [if_neg h, if_neg (fun z => h z.2)]
  · refine Eq.trans ?_ (if_neg (fun z => hp z.1)).symm
    rw [if_neg (fun z => by have := z.2; omega), if_neg (by decide +kernel), if_neg (fun z => absurd z.1 (by decide +kernel)), if_neg (fun z => absurd z.1 (by decide +kernel)), if_neg (fun z => absurd z.1 (by decide +kernel))]
    split
    · refine okD_f ?_
      show deedB (.nd .tup [.str "regive", mkF (r.getD 0 "")]) = false
      rw [deed1 (k := "pairs") rfl]
      exact prs_mk
    · rfl
theorem due_draw {r : List Str} : dueD ("draw" :: r) = if r.length = 1 ∧ nonD (nuF (r.getD 0 "")) = false then .nd .tup [.str "draw", nuF (r.getD 0 "")] else .non := by
  unfold dueD
  rw [din_cons, if_neg (fun z => absurd z.1 (by decide +kernel)), if_neg (by decide +kernel)]
  by_cases hp : r.length = 1
  · rw [if_pos ⟨rfl, hp⟩]
    show okD (.nd .tup [.str "draw", nuF (r.getD 0 "")]) = _
    unfold okD
    rw [deed1 (k := "number") rfl]
    show (if nuB (nuF (r.getD 0 "")) = true then _ else _) = _
    rw [nuB_nu]
    cases h : nonD (nuF (r.getD 0 ""))
    · exact (if_pos rfl).trans (if_pos ⟨hp, rfl⟩).symm
    · rw [if_neg (by decide), if_neg (fun z => nomatch z.2)]
  · refine Eq.trans ?_ (if_neg (fun z => hp z.1)).symm
    rw [if_neg (fun z => hp z.2), if_neg (fun z => absurd z.1 (by decide +kernel)), if_neg (fun z => absurd z.1 (by decide +kernel)), if_neg hp]
    rfl
theorem due_give {r : List Str} : dueD ("give" :: r) = if r.length = 2 ∧ (nonD (nuF (r.getD 0 "")) || nonD (mkF (r.getD 1 ""))) = false then .nd .tup [.str "give", nuF (r.getD 0 ""), mkF (r.getD 1 "")] else .non := by
  unfold dueD
  rw [din_cons, if_neg (fun z => absurd z.1 (by decide +kernel)), if_neg (by decide +kernel), if_neg (fun z => absurd z.1 (by decide +kernel))]
  by_cases hp : r.length = 2
  · rw [if_pos ⟨rfl, hp⟩]
    show okD (.nd .tup [.str "give", nuF (r.getD 0 ""), mkF (r.getD 1 "")]) = _
    unfold okD
    rw [deed2 (k := "number") (l := "mark") rfl]
    show (if (nuB (nuF (r.getD 0 "")) && mkB (mkF (r.getD 1 ""))) = true then _ else _) = _
    rw [nuB_nu, mkB_mk]
    cases h : nonD (nuF (r.getD 0 "")) <;> cases h2 : nonD (mkF (r.getD 1 ""))
    · exact (if_pos rfl).trans (if_pos ⟨hp, rfl⟩).symm
    · rw [if_neg (by decide), if_neg (fun z => nomatch z.2)]
    · rw [if_neg (by decide), if_neg (fun z => nomatch z.2)]
    · rw [if_neg (by decide), if_neg (fun z => nomatch z.2)]
  · refine Eq.trans ?_ (if_neg (fun z => hp z.1)).symm
    rw [if_neg (fun z => hp z.2), if_neg (fun z => absurd z.1 (by decide +kernel))]
    split
    · exact okD_f (deed0 (w := "give") fun k e => by have e2 : some [("number" : Str), "mark"] = some [k] := e; injection e2 with e3; injection e3 with _ e4; cases e4)
    · rfl
theorem due_crack {r : List Str} : dueD ("crack" :: r) = if r.length = 3 ∧ ((nonD (nuF (r.getD 0 "")) || nonD (oD (inR 0 2 (whF (r.getD 1 ""))))) || nonD (oD (inR 1 1000000 (whF (r.getD 2 ""))))) = false then .nd .tup [.str "crack", nuF (r.getD 0 ""), oD (inR 0 2 (whF (r.getD 1 ""))), oD (inR 1 1000000 (whF (r.getD 2 "")))] else .non := by
  unfold dueD
  rw [din_cons, if_neg (fun z => absurd z.1 (by decide +kernel)), if_neg (by decide +kernel), if_neg (fun z => absurd z.1 (by decide +kernel)), if_neg (fun z => absurd z.1 (by decide +kernel))]
  have nn : ∀ o : Option Int, nonD (oD o) = !o.isSome := fun o => by cases o <;> rfl
  by_cases hp : r.length = 3
  · rw [if_pos ⟨rfl, hp⟩]
    show okD (.nd .tup [.str "crack", nuF (r.getD 0 ""), oD (whF (r.getD 1 "")), oD (whF (r.getD 2 ""))]) = _
    unfold okD
    rw [deed3 (k := "number") (l := "axis") (m := "measure") rfl]
    show (if (nuB (nuF (r.getD 0 "")) && (btB (oD (whF (r.getD 1 ""))) 0 2 && btB (oD (whF (r.getD 2 ""))) 1 1000000)) = true then _ else _) = _
    rw [nuB_nu, bt_oD, bt_oD, nn, nn]
    cases h : nonD (nuF (r.getD 0 "")) <;> cases h2 : (inR 0 2 (whF (r.getD 1 ""))).isSome <;> cases h3 : (inR 1 1000000 (whF (r.getD 2 ""))).isSome
    case false.true.true =>
      rw [inR_eq h2, inR_eq h3]
      exact (if_pos rfl).trans (if_pos ⟨hp, rfl⟩).symm
    all_goals rw [if_neg (by decide), if_neg (fun z => nomatch z.2)]
  · refine Eq.trans ?_ (if_neg (fun z => hp z.1)).symm
    rw [if_neg (fun z => hp z.2)]
    split
    · exact okD_f (deed0 (w := "crack") fun k e => by have e2 : some [("number" : Str), "axis", "measure"] = some [k] := e; injection e2 with e3; injection e3 with _ e4; cases e4)
    · rfl
theorem due_mark {w : Str} {r : List Str} (h : w ∈ mkWs) : dueD (w :: r) = if r.length = 1 ∧ nonD (mkF (r.getD 0 "")) = false then .nd .tup [.str w, mkF (r.getD 0 "")] else .non := by
  have ne : ∀ y, y ∈ (["regive", "haul", "draw", "give", "crack"] : List Str) → ¬ w = y := fun y hy e => by subst e; exact absurd h (wd_no hy)
  have hk : kindsOf w = some [("mark" : Str)] := by
    simp only [mkWs, List.mem_cons, List.not_mem_nil, or_false] at h
    rcases h with rfl | rfl | rfl | rfl <;> rfl
  unfold dueD
  rw [din_cons, if_neg (fun z => ne "regive" (by simp) z.1), if_neg (ne "haul" (by simp)), if_neg (fun z => ne "draw" (by simp) z.1), if_neg (fun z => ne "give" (by simp) z.1), if_neg (fun z => ne "crack" (by simp) z.1)]
  by_cases hp : r.length = 1
  · rw [if_pos hp]
    show okD (.nd .tup [.str w, mkF (r.getD 0 "")]) = _
    unfold okD
    rw [deed1 hk]
    show (if mkB (mkF (r.getD 0 "")) = true then _ else _) = _
    rw [mkB_mk]
    cases h : nonD (mkF (r.getD 0 ""))
    · exact (if_pos rfl).trans (if_pos ⟨hp, rfl⟩).symm
    · rw [if_neg (by decide), if_neg (fun z => nomatch z.2)]
  · refine Eq.trans ?_ (if_neg (fun z => hp z.1)).symm
    rw [if_neg hp]
    rfl
theorem due_none {w : Str} {r : List Str} (h : w ∉ mkWs) (h2 : w ∉ (["regive", "haul", "draw", "give", "crack"] : List Str)) : dueD (w :: r) = .non := by
  have ne : ∀ y, y ∈ (["regive", "haul", "draw", "give", "crack"] : List Str) → ¬ w = y := fun y hy e => by subst e; exact h2 hy
  unfold dueD
  rw [din_cons, if_neg (fun z => ne "regive" (by simp) z.1), if_neg (ne "haul" (by simp)), if_neg (fun z => ne "draw" (by simp) z.1), if_neg (fun z => ne "give" (by simp) z.1), if_neg (fun z => ne "crack" (by simp) z.1)]
  split
  · refine okD_f (deed0 fun k e => ?_)
    have hk : kindsOf w = none := kinds_no fun ks hm => by
      simp only [tab_MADE_OF, List.mem_cons, Prod.mk.injEq, List.not_mem_nil, or_false] at hm
      simp only [mkWs, List.mem_cons, List.not_mem_nil, or_false, not_or] at h
      simp only [List.mem_cons, List.not_mem_nil, or_false, not_or] at h2
      obtain ⟨a1, a2, a3, a4⟩ := h
      obtain ⟨b1, b2, b3, b4, b5⟩ := h2
      rcases hm with ⟨e, _⟩ | ⟨e, _⟩ | ⟨e, _⟩ | ⟨e, _⟩ | ⟨e, _⟩ | ⟨e, _⟩ | ⟨e, _⟩ | ⟨e, _⟩ | ⟨e, _⟩
      · exact b3 e
      · exact b4 e
      · exact b1 e
      · exact a1 e
      · exact a2 e
      · exact b5 e
      · exact b2 e
      · exact a3 e
      · exact a4 e
    rw [hk] at e
    cases e
  · rfl
theorem prs_ok {r : List Str} : prsB (.nd .lst (prF r)) = ((decide ((1 : Int) ≤ (r.length / 2 : Nat)) && decide (((r.length / 2 : Nat) : Int) ≤ 24)) && (List.range (r.length / 2)).all fun k => !(nonD (nuF (r.getD (2 * k) "")) || nonD (mkF (r.getD (2 * k + 1) "")))) := by
  have e : prsB (.nd .lst (prF r)) = ((decide ((1 : Int) ≤ (prF r).length) && decide (((prF r).length : Int) ≤ 24)) && (prF r).all prB) := rfl
  have el : (prF r).length = r.length / 2 := by unfold prF; rw [List.length_map, List.length_range]
  rw [e, el]
  congr 1
  unfold prF
  rw [List.all_map]
  congr 1
  funext k
  show (nuB (nuF (r.getD (2 * k) "")) && mkB (mkF (r.getD (2 * k + 1) ""))) = _
  rw [nuB_nu, mkB_mk, Bool.not_or]
theorem due_ex {ws : List Str} (h : dueD ws ≠ .non) : ∃ x : Dd, x.ok ∧ dueD ws = x.d := by
  unfold dueD okD at h ⊢
  by_cases hd : deedB (dinT ws).d = true
  · rw [if_pos hd]
    exact deed_ex hd
  · rw [if_neg hd] at h
    exact absurd rfl h
theorem lnL_len : ∀ ws : List Str, (lnL ws).length = ws.length
  | [] => rfl
  | w :: r => by unfold lnL; rw [List.length_cons, List.length_map, List.length_cons]
theorem lnL_get {ws : List Str} {k : Nat} (h : k < ws.length) : (lnL ws).getD k none = inR 1 (topK k) (whF (ws.getD k "")) := by
  cases ws with
  | nil => simp at h
  | cons w r =>
    cases k with
    | zero => rfl
    | succ k =>
      have h2 : k < r.length := by simpa using h
      show (r.map fun p => inR 1 4 (whF p)).getD k none = inR 1 4 (whF (r.getD k ""))
      rw [List.getD_eq_getElem?_getD, List.getElem?_map, getD_at h2]
      rfl
theorem range_getD {α : Type} {l : List α} {a : α} {f : α → D} : (List.range l.length).map (fun k => f (l.getD k a)) = l.map f := by
  apply List.ext_getElem?
  intro k
  rw [List.getElem?_map, List.getElem?_map]
  by_cases h : k < l.length
  · rw [List.getElem?_range h, List.getElem?_eq_getElem h]
    show some (f (l.getD k a)) = some (f l[k])
    rw [List.getD_eq_getElem?_getD, List.getElem?_eq_getElem h]; rfl
  · rw [List.getElem?_eq_none (by simpa using h), List.getElem?_eq_none (by simpa using h)]
    rfl
theorem any_non : ∀ os : List (Option Int), ((os.map oD).any fun z => eqD z .non) = decide (none ∈ os)
  | [] => rfl
  | o :: os => by
    rw [List.map_cons, List.any_cons, any_non os]
    cases o with
    | none => simp [oD, eqD]
    | some v => simp [oD, eqD]
theorem fl_oD (os : List (Option Int)) : (os.map oD).all flD = true := by
  rw [List.all_eq_true]
  intro d hd
  obtain ⟨o, _, rfl⟩ := List.mem_map.mp hd
  cases o <;> rfl
def refD : D := .nd .tup [.str "refused", .bl true]
def ansF (w x : Str) : D := if w = "number" then nuF x else if w = "mark" then mkF x else dueD (Txt.split x " ")
def ansD (w : Str) (d : D) : D := match d with
  | .str x => if nonD (ansF w x) = true then refD else .nd .tup [.str "told", ansF w x]
  | _ => refD
def wsL : List Str := ["number", "mark", "deed"]
theorem ans_ref {w : Str} {d : D} (h : ∀ x, d = .str x → nonD (ansF w x) = true) : ansD w d = refD := by
  unfold ansD
  split
  · rename_i x
    rw [if_pos (h x rfl)]
  · rfl
theorem ans_told {w x : Str} (h : nonD (ansF w x) = false) : ansD w (.str x) = .nd .tup [.str "told", ansF w x] := by
  show (if nonD (ansF w x) = true then refD else _) = _
  rw [h]; rfl
theorem ans_n {x : Str} : ansF "number" x = nuF x := rfl
theorem ans_m {x : Str} : ansF "mark" x = mkF x := by unfold ansF; rw [if_neg (by decide +kernel), if_pos rfl]
theorem ans_d {x : Str} : ansF "deed" x = dueD (Txt.split x " ") := by unfold ansF; rw [if_neg (by decide +kernel), if_neg (by decide +kernel)]
theorem mk_pl {r : List Str} : Dspl 63 (r.map mkF) = true := pls_all fun d hd => by
  obtain ⟨x, _, rfl⟩ := List.mem_map.mp hd
  rcases mk_is (x := x) with e | ⟨m, e, _⟩
  · rw [e]; rfl
  · rw [e]; simp [mkD, D.pl, Dspl]
theorem mk_any : ∀ {r : List Str}, ((r.map mkF).any fun z => eqD z .non) = r.any fun x => nonD (mkF x)
  | [] => rfl
  | x :: r => by
    rw [List.map_cons, List.any_cons, List.any_cons, mk_any]
    congr 1
    rcases mk_is (x := x) with e | ⟨m, e, _⟩
    · rw [e]; rfl
    · rw [e]; rfl
theorem mk_all : ∀ {r : List Str}, (r.any fun x => nonD (mkF x)) = false → ∃ ms : List (Int × Int), r.map mkF = ms.map mkD ∧ (∀ m, m ∈ ms → mkOk m) ∧ ms.length = r.length
  | [], _ => ⟨[], rfl, by simp, rfl⟩
  | x :: r, h => by
    rw [List.any_cons, Bool.or_eq_false_iff] at h
    obtain ⟨ms, e, hm, hl⟩ := mk_all h.2
    rcases mk_is (x := x) with e2 | ⟨m, e2, h2⟩
    · rw [e2] at h; exact absurd h.1 (by decide)
    · exact ⟨m :: ms, by rw [List.map_cons, List.map_cons, e, e2], fun q hq => by
        rcases List.mem_cons.mp hq with rfl | hq
        · exact h2
        · exact hm q hq, by rw [List.length_cons, List.length_cons, hl]⟩
theorem nodup_len {ms qs : List (Int × Int)} (hl : ms.length ≤ 2) (nd : qs.Nodup) (hm : ∀ p, p ∈ qs ↔ p ∈ ms) : qs.length = ms.length ↔ ms.Nodup := by
  match ms, hl, hm with
  | [], _, hm =>
    have : qs = [] := List.eq_nil_iff_forall_not_mem.mpr fun p hp => by have := (hm p).mp hp; simp at this
    subst this
    simp
  | [a], _, hm =>
    refine ⟨fun _ => by simp, fun _ => ?_⟩
    match qs, nd, hm with
    | [], _, hm => have := (hm a).mpr (by simp); simp at this
    | [_], _, _ => rfl
    | p :: q :: r, nd, hm =>
      have h1 := (hm p).mp (by simp)
      have h2 := (hm q).mp (by simp)
      simp at h1 h2
      subst h1 h2
      simp at nd
  | [a, b], _, hm =>
    by_cases e : a = b
    · subst e
      refine ⟨fun h => ?_, fun h => by simp at h⟩
      match qs, nd, hm, h with
      | [p, q], nd, hm, _ =>
        have h1 := (hm p).mp (by simp)
        have h2 := (hm q).mp (by simp)
        simp at h1 h2
        subst h1 h2
        simp at nd
      | [], _, _, h => simp at h
      | [_], _, _, h => simp at h
      | _ :: _ :: _ :: _, _, _, h => simp at h
    · have nd2 : ([a, b] : List (Int × Int)).Nodup := by simp [e]
      refine ⟨fun _ => nd2, fun _ => ?_⟩
      exact ((List.perm_ext_iff_of_nodup nd nd2).mpr hm).length_eq
  | _ :: _ :: _ :: _, hl, _ => simp at hl
theorem mks_ms {ms : List (Int × Int)} (hm : ∀ m, m ∈ ms → mkOk m) : mksB (.nd .lst (ms.map mkD)) = decide ((1 ≤ ms.length ∧ ms.length ≤ 2) ∧ ms.Nodup) := by
  have e1 : mksB (.nd .lst (ms.map mkD)) = ((decide ((1 : Int) ≤ (ms.map mkD).length) && decide (((ms.map mkD).length : Int) ≤ 2)) && ((ms.map mkD).all mkB && dif2 (ms.map mkD))) := rfl
  rw [e1, all_mapB fun m h => mkB_ok (hm m h), Bool.true_and, List.length_map]
  match ms, hm with
  | [], _ => rfl
  | [a], _ => simp [dif2]
  | [a, b], _ =>
    by_cases e : a = b
    · subst e
      show (_ && !eqD (mkD a) (mkD a)) = _
      rw [eqD_self 64 _ pl_mk64]
      simp
    · show (_ && !eqD (mkD a) (mkD b)) = _
      rw [mkD_ne e]
      simp [e]
  | a :: b :: c :: r, _ =>
    have : decide ((((a :: b :: c :: r).length : Nat) : Int) ≤ 2) = false := decide_eq_false (by simp only [List.length_cons]; omega)
    rw [this, Bool.and_false, Bool.false_and]
    symm
    exact decide_eq_false (by rintro ⟨⟨_, h⟩, _⟩; simp at h)
theorem mks_bad {r : List Str} (h : (r.any fun x => nonD (mkF x)) = true) : mksB (.nd .lst (r.map mkF)) = false := by
  cases e : mksB (.nd .lst (r.map mkF)) with
  | false => rfl
  | true =>
    exfalso
    obtain ⟨ms, e2, _, _, hm, _⟩ := mks_ex e
    injection e2 with _ e3
    obtain ⟨x, hx, h2⟩ := List.any_eq_true.mp h
    have : mkF x ∈ ms.map mkD := by rw [← e3]; exact List.mem_map.mpr ⟨x, hx, rfl⟩
    obtain ⟨m, _, e4⟩ := List.mem_map.mp this
    rw [← e4] at h2
    cases h2
theorem mks_len {r : List Str} (h : ¬ (1 ≤ r.length ∧ r.length ≤ 2)) : mksB (.nd .lst (r.map mkF)) = false := by
  cases e : mksB (.nd .lst (r.map mkF)) with
  | false => rfl
  | true =>
    exfalso
    obtain ⟨ms, e2, h1, h3, _⟩ := mks_ex e
    injection e2 with _ e3
    have e4 := congrArg List.length e3
    rw [List.length_map, List.length_map] at e4
    have := List.length_pos_iff.mpr h1
    exact h ⟨by omega, by omega⟩
theorem non_ne {d : D} (h : d ≠ .non) : nonD d = false := by cases d <;> first | rfl | exact absurd rfl h
theorem deed_non {d : D} (h : deedB d = true) : nonD d = false := non_ne fun e => by subst e; cases h
theorem cut_len {z : Str} {lo hi : Option Int} : (cutS z lo hi).length ≤ z.length := by
  rw [TL.len_tl, TL.len_tl z]
  show (cutS z lo hi).cps.toList.length ≤ z.cps.toList.length
  unfold cutS
  rw [List.length_take, List.length_drop]
  omega
theorem app_len {a b : Str} : (a ++ b).length = a.length + b.length := by
  rw [TL.len_tl, TL.tl_append, List.length_append, ← TL.len_tl, ← TL.len_tl]
def sumL (ws : List Str) : Nat := (ws.map (·.length)).sum + ws.length
theorem sumL_app {a b : List Str} : sumL (a ++ b) = sumL a + sumL b := by
  unfold sumL
  rw [List.map_append, List.sum_append, List.length_append]
  omega
theorem sumL_cons {x : Str} {r : List Str} : sumL (x :: r) = x.length + 1 + sumL r := by
  unfold sumL
  rw [List.map_cons, List.sum_cons, List.length_cons]
  omega
theorem sumL_mem {x : Str} {ws : List Str} (h : x ∈ ws) : x.length + 1 ≤ sumL ws := by
  induction ws with
  | nil => cases h
  | cons y r ih =>
    rw [sumL_cons]
    rcases List.mem_cons.mp h with rfl | h
    · omega
    · have := ih h; omega
theorem sumL_take {ws : List Str} : ∀ n : Nat, sumL (ws.take n) ≤ sumL ws := by
  induction ws with
  | nil => intro n; simp
  | cons x r ih =>
    intro n
    cases n with
    | zero => simp [sumL]
    | succ n => rw [List.take_succ_cons, sumL_cons, sumL_cons]; have := ih n; omega
theorem sumL_drop {ws : List Str} : ∀ n : Nat, sumL (ws.drop n) ≤ sumL ws := by
  induction ws with
  | nil => intro n; simp
  | cons x r ih =>
    intro n
    cases n with
    | zero => simp
    | succ n => rw [List.drop_succ_cons, sumL_cons]; have := ih n; omega
theorem cutL_map {α β : Type} {f : α → β} {xs : List α} {lo hi : Option Int} : cutL (xs.map f) lo hi = (cutL xs lo hi).map f := by
  unfold cutL
  rw [List.length_map, List.map_take, List.map_drop]
theorem sumL_cut {ws : List Str} {lo hi : Option Int} : sumL (cutL ws lo hi) ≤ sumL ws := by
  unfold cutL
  exact Nat.le_trans (sumL_take _) (sumL_drop _)
theorem spl_sum {S : List Nat} : ∀ (l : List Nat) (k : Nat) (acc : List Nat), ((TL.spl S k acc l).map List.length).sum ≤ acc.length + l.length
  | [], k, acc => by rw [TL.spl_nil]; simp
  | c :: r, 0, acc => by
    by_cases hp : TL.pre S (c :: r) = true
    · rw [TL.spl_hit hp, List.map_cons, List.sum_cons]
      have := spl_sum (S := S) r (S.length - 1) []
      simp at this ⊢
      omega
    · rw [TL.spl_miss (by simpa using hp)]
      have := spl_sum (S := S) r 0 (acc ++ [c])
      simp at this ⊢
      omega
  | c :: r, k + 1, acc => by
    have h : TL.spl S (k + 1) acc (c :: r) = TL.spl S k acc r := rfl
    rw [h]
    have := spl_sum (S := S) r k acc
    simp
    omega
theorem sum_split {x y : Str} (hs : sepOk y = true := by decide +kernel) : sumL (Txt.split x y) ≤ 2 * x.length + 2 := by
  have hl := split_len (x := x) (y := y)
  have h2 : ((Txt.split x y).map (·.length)).sum ≤ x.length := by
    have hs2 := hs
    unfold sepOk at hs2
    simp only [Bool.and_eq_true, Bool.not_eq_true'] at hs2
    have hy : TL.tl y ≠ [] := fun e => by
      have e2 : y.cps = #[] := Array.toList_inj.mp e
      have := hs2.2
      rw [e2] at this
      cases this
    have e := TL.split_spl x y hy (TL.kind_ok hs2.1)
    have e2 : (Txt.split x y).map (·.length) = ((Txt.split x y).map TL.tl).map List.length := by
      rw [List.map_map]
      exact List.map_congr_left fun p _ => TL.len_tl p
    rw [e2, e, TL.len_tl x]
    have := spl_sum (S := TL.tl y) (TL.tl x) 0 []
    simpa using this
  unfold sumL
  omega
theorem join_sum {y : Str} (hy : y.length = 1) : ∀ ws : List Str, (Txt.join y ws).length ≤ sumL ws
  | [] => by rw [TL.len_tl, join_tl]; simp [TL.joinL]
  | [p] => by rw [TL.len_tl, join_tl, sumL_cons]; simp only [List.map_cons, List.map_nil, TL.joinL]; rw [TL.len_tl p]; omega
  | p :: q :: r => by
    have := join_sum hy (q :: r)
    rw [TL.len_tl, join_tl] at this ⊢
    rw [sumL_cons]
    simp only [List.map_cons, TL.joinL, List.length_append] at this ⊢
    rw [TL.len_tl] at hy
    rw [← TL.len_tl p]
    omega
theorem join_jn {ws : List Str} {Q' : T → Prop} (h : sumL ws ≤ 16000000) (q : Q' (.fz (.str (Txt.join " " ws)))) {t : T} (ht : seqT t = some (ws.map .str)) : joinG " " t Q' := by
  refine ⟨ws, ht, ?_, q⟩
  have h4 : Str.length " " = 1 := rfl
  rw [h4]
  unfold sumL at h
  omega
theorem sumL_len {ws : List Str} : ws.length ≤ sumL ws := by unfold sumL; omega
theorem at_map {ws : List Str} {i : Int} {x : Str} (h : atI ws i = some x) : atI (ws.map D.str) i = some (.str x) := by
  unfold atI at h ⊢
  rw [List.length_map]
  cases e : ixN ws.length i with
  | none => rw [e] at h; cases h
  | some j => rw [e] at h; exact map_get h
theorem nu_pl {y : Str} : D.pl 63 (nuF y) = true := by
  rcases nu_is (x := y) with e | ⟨ns, e, _⟩
  · rw [e]; rfl
  · rw [e]
    show D.pl 63 (.nd .tup (ns.map .int)) = true
    have : Dspl 62 (ns.map D.int) = true := pls_all fun d hd => by
      obtain ⟨i, _, rfl⟩ := List.mem_map.mp hd
      rfl
    simpa [D.pl] using this
theorem mk_pl2 {y : Str} : D.pl 63 (mkF y) = true := by
  rcases mk_is (x := y) with e | ⟨m, e, _⟩ <;> rw [e] <;> rfl
theorem oD_pl {o : Option Int} : D.pl 63 (oD o) = true := by cases o <;> rfl
theorem nu_non {y : Str} : eqD (nuF y) .non = nonD (nuF y) := by
  rcases nu_is (x := y) with e | ⟨ns, e, _⟩ <;> rw [e] <;> rfl
theorem mk_non {y : Str} : eqD (mkF y) .non = nonD (mkF y) := by
  rcases mk_is (x := y) with e | ⟨m, e, _⟩ <;> rw [e] <;> rfl
theorem oD_non {o : Option Int} : eqD (oD o) .non = nonD (oD o) := by cases o <;> rfl
theorem eqD_nil : ∀ {ds : List D}, eqD (.nd .lst ds) (.nd .lst []) = decide (ds = [])
  | [] => rfl
  | d :: ds => by
    rw [decide_eq_false (by simp)]
    rfl
theorem tl_true {ds : List D} {wn : Nat} (h1 : 1 ≤ wn) (h : (ds.any (fun z => eqD z .non) || (eqD (.nd .lst ds) (.nd .lst []) || !eqD (.int (ds.length : Nat)) (.int wn))) = true) : ds.any (fun z => eqD z .non) = true ∨ ds.length ≠ wn := by
  rw [Bool.or_eq_true, Bool.or_eq_true, eqD_nil] at h
  rcases h with h | h | h
  · exact .inl h
  · right
    have := of_decide_eq_true h
    subst this
    simp
    omega
  · right
    intro e
    rw [e] at h
    simp [eqD] at h
theorem tl_false {ds : List D} {wn : Nat} (h : (ds.any (fun z => eqD z .non) || (eqD (.nd .lst ds) (.nd .lst []) || !eqD (.int (ds.length : Nat)) (.int wn))) = false) : ds.any (fun z => eqD z .non) = false ∧ ds.length = wn := by
  rw [Bool.or_eq_false_iff, Bool.or_eq_false_iff] at h
  refine ⟨h.1, ?_⟩
  have := h.2.2
  simp [eqD] at this
  omega
theorem ln_ne {a b : Nat} (h : (!eqD (.int (a : Nat)) (.int ((b : Nat) + 1))) = true) : a ≠ b + 1 := fun e => by
  subst e
  simp [eqD] at h
theorem ln_eq {a b : Nat} (h : (!eqD (.int (a : Nat)) (.int ((b : Nat) + 1))) = false) : a = b + 1 := by
  simp [eqD] at h
  omega
theorem ln_no {a : Nat} {k : Int} (h : (a : Int) ≠ k) : eqD (.int (a : Nat)) (.int k) = false := by
  simp [eqD]; exact h
theorem get_no {w : Str} (h1 : w ≠ "draw") (h2 : w ≠ "give") (h3 : w ≠ "crack") : dGet (.fz (.nd (.dK [.inr "draw", .inr "give", .inr "crack"]) [.int 1, .int 2, .int 3])) (.fz (.str w)) = some none := by
  have e : ∀ {y : Str}, w ≠ y → ¬ ((Sum.inr y : Key) = Sum.inr w) := fun {y} h q => h (Sum.inr.inj q).symm
  show some (look _ _ (Sum.inr w : Key)) = _
  simp only [look]
  rw [if_neg (e h1), if_neg (e h2), if_neg (e h3)]
theorem sml_d63 {x : Dd} (h : x.ok) : sml 40000 63 x.d := by
  cases x with
  | num ns => exact sml_mono (sml_tup (.cons (sml_wd (.inl (by simp))) (.cons (sml_ns h) .nil))) (by decide)
  | give ns m => exact sml_mono (sml_tup (.cons (sml_wd (.inl (by simp))) (.cons (sml_ns h.1) (.cons (sml_mk h.2) .nil)))) (by decide)
  | crack ns a s =>
    obtain ⟨h1, h2, h3⟩ := h
    exact sml_mono (sml_tup (.cons (sml_wd (.inl (by simp))) (.cons (sml_ns h1) (.cons (sml_int ⟨by omega, by omega⟩) (.cons (sml_int ⟨by omega, by omega⟩) .nil))))) (by decide)
  | mark w m => exact sml_mono (sml_tup (.cons (sml_wd (.inr h.1)) (.cons (sml_mk h.2) .nil))) (by decide)
  | pairs ps => exact sml_mono (sml_tup (.cons (sml_wd (.inl (by simp))) (.cons (sml_lst (k := 1130) (m := 24) (fun p hp => sml_tup (.cons (sml_ns (h.2.2 p hp).1) (.cons (sml_mk (h.2.2 p hp).2) .nil))) h.2.1) .nil))) (by decide)
  | marks ms => exact sml_mono (sml_tup (.cons (sml_wd (.inl (by simp))) (.cons (sml_lst (k := 282) (m := 2) (fun m hm => sml_mk (h.2.2.1 m hm)) h.2.1) .nil))) (by decide)
theorem sml_ref : sml 40020 64 refD := sml_mono (sml_tup (.cons (sml_strL (m := 10) (by decide +kernel) (by decide +kernel)) (.cons sml_bl .nil))) (by decide)
theorem sml_toldD {d : D} {k : Nat} (h : sml k 63 d) (hk : k ≤ 40000) : sml 40020 64 (.nd .tup [.str "told", d]) := sml_mono (sml_tup (.cons (sml_strL (m := 10) (by decide +kernel) (by decide +kernel)) (.cons h .nil))) (by omega)
theorem sml_ans {w : Str} {d : D} (hw : w ∈ wsL) : sml 40020 64 (ansD w d) := by
  unfold ansD
  split
  · rename_i x
    split
    · exact sml_ref
    · rename_i hn
      simp only [wsL, List.mem_cons, List.not_mem_nil, or_false] at hw
      rcases hw with rfl | rfl | rfl
      · rw [ans_n] at hn ⊢
        rcases nu_is (x := x) with e | ⟨ns, e, h⟩
        · rw [e] at hn; exact absurd rfl hn
        · rw [e]; exact sml_toldD (sml_ns h) (by decide)
      · rw [ans_m] at hn ⊢
        rcases mk_is (x := x) with e | ⟨m, e, h⟩
        · rw [e] at hn; exact absurd rfl hn
        · rw [e]; exact sml_toldD (sml_mk h) (by decide)
      · rw [ans_d] at hn ⊢
        obtain ⟨y, hy, e⟩ := due_ex (ws := Txt.split x " ") (fun e => by rw [e] at hn; exact absurd rfl hn)
        rw [e]
        exact sml_toldD (sml_d63 hy) (by decide)
  · exact sml_ref

def ntF (ca : Str → Addr) (E : Rz → List T → Prop) : Prop := E ⟨ca "NoText", [], []⟩ []
def txD (d : D) : Prop := (∃ x, d = .str x ∧ shT x) ∨ ((∀ x, d ≠ .str x) ∧ tyD d = true)
def rdNS (ca : Str → Addr) : SemF := fun args Q E => ∃ d, args = [.fz d] ∧ txD d ∧ ((∀ x, d = .str x → nuF x = .non) → ntF ca E) ∧ (∀ x, d = .str x → nuF x ≠ .non → Q (.fz (nuF x)) [])
def rdMS (ca : Str → Addr) : SemF := fun args Q E => ∃ d, args = [.fz d] ∧ txD d ∧ ((∀ x, d = .str x → mkF x = .non) → ntF ca E) ∧ (∀ x, d = .str x → mkF x ≠ .non → Q (.fz (mkF x)) [])
def rdDS (ca : Str → Addr) : SemF := fun args Q E => ∃ d, args = [.fz d] ∧ txD d ∧ ((∀ x, d = .str x → deedB (dinT (Txt.split x " ")).d = false) → ntF ca E) ∧ (∀ x, d = .str x → deedB (dinT (Txt.split x " ")).d = true → Q (dinT (Txt.split x " ")) [])
def llistS : SemF := fun args Q E => ∃ (w : Str) (r : List Str), args = [.fz (lsD (w :: r))] ∧ (w = "haul" ∨ w = "regive") ∧ (w :: r).length ≤ 2000000 ∧ (∀ x, x ∈ w :: r → shT x) ∧ Q (.fz (dueD (w :: r))) []
def ldinS : SemF := fun args Q E => ∃ (w : Str) (r : List Str), args = [.fz (lsD (w :: r))] ∧ (w :: r).length ≤ 2000000 ∧ (∀ x, x ∈ w :: r → shT x) ∧ Q (.fz (dueD (w :: r))) []
def ldueS : SemF := fun args Q E => ∃ w x, args = [.fz (.str w), .fz (.str x)] ∧ w ∈ wsL ∧ shT x ∧ Q (.fz (ansD w (.str x))) []
def ltoldS : SemF := fun args Q E => ∃ w d, args = [.fz (.str w), .fz d] ∧ w ∈ wsL ∧ txD d ∧ Q (.fz (ansD w d)) []
def lsignS : SemF := fun args Q E => ∃ t, args = [t] ∧ IsBag t ∧ ∀ (c : Nat) t', IsBag t' → Q (.fz (.str ⟨#[c]⟩)) [t']
def lspoilS : SemF := fun args Q E => ∃ (n : Nat) (t : T) (x : Str), args = [t, .fz (.str x)] ∧ IsBag t ∧ x.length ≤ n ∧ n ≤ 100000 ∧ ∀ (y : Str) t', y.length ≤ 8 * n + 6000 → IsBag t' → Q (.fz (.str y)) [t']
def lotherS : SemF := lspoilS
def ltextS : SemF := fun args Q E => ∃ t, args = [t] ∧ IsBag t ∧ ∀ (y : Str) t', shT y → IsBag t' → Q (.fz (.str y)) [t']
def ledgeS : SemF := fun args Q E => args = [] ∧ ∀ ws : List Str, ws.length ≤ 100 → (∀ x, x ∈ ws → shT x) → Q (.fz (lsD ws)) []
section
variable {P : Program} {w : World} {K : PySem.W.Frag} {mg : Str → Option Value} {base : Heap} {ca : Str → Addr}
def bagT (a b c : Int) (ns : List Int) : T := .ow .lst [.int a, .int b, .int c, .nd .lst (ns.map .int)]
theorem ok_take (Df : DefAt K mg "_law_take" s_take ["_law_bag_here", "_law_many"]) (B : Bt mg) : Callee P w K mg base 1 "_law_take" ["_law_bag_here", "_law_many"] [0] takeS := by
  refine callee_of Df sc_take (by decide) (by decide) fun f cdv A outer s H EX W hr hG tk hp => ?_
  refine ⟨_, (ss_cons (s_if (t_eq (hu65 hr) ((q_ix (p_nm 0) (q_int).p)).p (q_int).p) (ss_cons (s_set 2 q_int sc_take.nd)
      (ss_cons (s_if (t_lt ((q_ix (p_nm 0) (q_int).p)).p ((q_b1 c_len g_len (by rfl) B.len bt_len ((q_ix (p_nm 0) (q_int).p)).p)).p) (ss_one (s_set 2 (q_ix ((q_ix (p_nm 0) (q_int).p)).p ((q_ix (p_nm 0) (q_int).p)).p) sc_take.nd)) ss_nil).cut
      (ss_cons (s_augS 0 ip_add q_int q_int)
      (ss_cons (s_if (t_ge (p_nm 2) (q_int).p) (ss_one (s_store 0 (p_nm 2).val q_int)) ss_nil).cut
      (ss_one (s_store 0 (q_mod ((q_add ((q_add ((q_mul ((q_ix (p_nm 0) (q_int).p)).p (q_int).p)).p ((q_mod (p_nm 2) (q_int).p)).p)).p ((q_mul (q_int).p ((q_ix (p_nm 0) (q_int).p)).p)).p)).p (q_int).p) q_int)))))) ss_nil).cut
      (ss_cons (s_if (t_gt ((q_ix (p_nm 0) (q_int).p)).p (q_int).p) (ss_cons (s_set 3 (q_mod ((q_ix (p_nm 0) (q_int).p)).p (p_nm 1)) sc_take.nd)
      (ss_cons (s_store 0 (q_fdiv ((q_ix (p_nm 0) (q_int).p)).p (p_nm 1)) q_int)
      (ss_one (s_ret (p_nm 3).val)))) ss_nil)
      (ss_cons (s_set 4 (q_mod ((q_mul ((q_add ((q_ix (p_nm 0) (q_int).p)).p (q_int).p)).p (q_int).p)).p (q_int).p) sc_take.nd)
      (ss_cons (s_set 5 (q_mod ((q_mul ((q_mod ((q_mul (p_nm 4) (p_nm 4))).p (q_int).p)).p (q_int).p)).p (q_int).p) sc_take.nd)
      (ss_cons (s_if (t_gt (p_nm 1) (q_int).p) (ss_one (s_ret (q_mod ((q_add ((q_mul (p_nm 5) (q_int).p)).p (p_nm 4))).p (p_nm 1)))) ss_nil)
      (ss_one (s_ret (q_mod ((q_fdiv (p_nm 5) (q_int).p)).p (p_nm 1))))))))), fun args Q E hl h => ?_⟩
  clear hl hr hG tk hp W EX H s outer A cdv f Df B
  obtain ⟨t, n, rfl, ⟨a, b, c, ns, rfl, ha, hb, hb2, hc, hns⟩, hn, hn2, h⟩ := h
  walk_at "vs"
  refine .mk ⟨fun e => ∃ a b c : Int, ∃ ns x, e = [some (bagT a b c ns), some (.fz (.int n)), x, none, none, none] ∧ 0 ≤ a ∧ 0 ≤ b ∧ b < 2147483647 ∧ 0 ≤ c ∧ ∀ x, x ∈ ns → 0 ≤ x, ?_, ?_⟩
  · walk_at "vs"
    refine ⟨fun h1 => ?_, fun h1 => ?_⟩
    · refine .mk ⟨fun e => ∃ x : Int, e = [some (bagT a b c ns), some (.fz (.int n)), some (.fz (.int x)), none, none, none] ∧ 0 ≤ x, ?_, ?_⟩
      · walk_at "vs"
        refine ⟨fun h2 => ?_, fun h2 => ?_⟩
        · walk_at "vs"
          simp at h2
          obtain ⟨d, e, m⟩ := at_lt (ds := ns.map D.int) hc (by simpa using h2)
          obtain ⟨x, mx, rfl⟩ := List.mem_map.mp m
          exact ⟨_, e, x, rfl, hns x mx⟩
        · exact ⟨0, rfl, by omega⟩
      · rintro e ⟨x, rfl, hx⟩
        walk_at "vs"
        refine ⟨show 2 < 4 by decide, rfl, ?_⟩
        refine .mk ⟨fun e => ∃ a : Int, e = [some (bagT a b (c + 1) ns), some (.fz (.int n)), some (.fz (.int x)), none, none, none] ∧ 0 ≤ a, ?_, ?_⟩
        · refine ⟨fun h2 => ?_, fun h2 => ?_⟩
          · walk_at "vs"
            exact hx
          · exact ⟨a, rfl, ha⟩
        · rintro e ⟨a, rfl, ha⟩
          walk_at "vs"
          exact ⟨a, _, c + 1, ns, _, rfl, ha, Int.emod_nonneg _ (by decide), Int.emod_lt_of_pos _ (by decide), by omega, hns⟩
    · exact ⟨a, b, c, ns, _, rfl, ha, hb, hb2, hc, hns⟩
  · rintro e ⟨a, b, c, ns, x, rfl, ha, hb, hb2, hc, hns⟩
    walk_at "vs"
    refine ⟨fun h1 => ?_, fun h1 => ?_⟩
    · walk_at "vs"
      exact h _ _ (Int.emod_nonneg _ (by omega)) (Int.emod_lt_of_pos _ (by omega)) ⟨a / n, b, c, ns, rfl, Int.ediv_nonneg ha (by omega), hb, hb2, hc, hns⟩
    · walk_at "vs"
      refine ⟨fun h2 => ?_, fun h2 => ?_⟩
      · walk_at "vs"
        exact h _ _ (Int.emod_nonneg _ (by omega)) (Int.emod_lt_of_pos _ (by omega)) ⟨a, b, c, ns, rfl, ha, hb, hb2, hc, hns⟩
      · walk_at "vs"
        exact h _ _ (Int.emod_nonneg _ (by omega)) (Int.emod_lt_of_pos _ (by omega)) ⟨a, b, c, ns, rfl, ha, hb, hb2, hc, hns⟩
theorem ok_bag (Df : DefAt K mg "_law_bag" s_bag ["_law_script"]) (B : Bt mg) : Callee P w K mg base 1 "_law_bag" ["_law_script"] [] bagS := by
  refine callee_of Df sc_bag (by decide) (by decide) fun f cdv A outer s H EX W hr hG tk hp => ?_
  refine ⟨_, (ss_one (s_ret (q_lst (a_cons q_int (a_cons q_int (a_cons q_int (a_cons ((q_lc (own := [("_law_cell", 1)]) rfl sc_bag.nd (i_list ((q_slice (p_nm 0) o_none (o_some q_int))).fz) (blkOk_by (by rfl)) (fun _ _ _ _ _ => (g_name 1 sc_bag.nd)) (fun _ _ _ _ _ => ts_nil) (fun _ _ _ _ _ => (q_b1 call_abs g_abs (by rfl) B.abs bt_abs (p_nm 1))))).fz a_nil))))))), fun args Q E hl h => ?_⟩
  clear hl hr hG tk hp W EX H s outer A cdv f Df B
  obtain ⟨ns, rfl, hn, h⟩ := h
  refine ⟨?_, ?_⟩
  · exact Nat.le_trans hn (by decide)
  refine .mk ⟨fun j acc e => ∃ xs : List Int, acc = xs.map .int ∧ e = [some (.fz (.scr ns)), none] ∧ ∀ x, x ∈ xs → 0 ≤ x, ⟨[], rfl, rfl, by simp⟩, ?_, ?_⟩
  · rintro j d acc e hd ⟨xs, rfl, rfl, hx⟩
    obtain ⟨x, _, rfl⟩ := List.mem_map.mp (List.mem_of_getElem? hd)
    refine ⟨fun _ => ?_, fun z => nomatch z⟩
    exact ⟨xs ++ [if x < 0 then -x else x], by simp, rfl, fun y hy => by
      rcases List.mem_append.mp hy with q | q
      · exact hx y q
      · simp at q; subst q; split <;> omega⟩
  · rintro acc e ⟨xs, rfl, rfl, hx⟩
    exact h _ ⟨0, 1234567891, 0, xs, rfl, by decide, by decide, by decide, by decide, hx⟩
theorem ok_alike (Df : DefAt K mg "_law_alike" s_alike ["_law_found", "_law_due_here"]) (B : Bt mg) : Callee P w K mg base 1 "_law_alike" ["_law_found", "_law_due_here"] [] alikeS := by
  refine callee_of Df sc_alike (by decide) (by decide) fun f cdv A outer s H EX W hr hG tk hp => ?_
  refine ⟨_, (ss_one (s_ret (q_and (q_eq (hu65 hr) (p_nm 0) (p_nm 1)) (q_one (q_eq (hu65 hr) ((q_b1 (c_repr hG (hu66 hr)) g_repr (by rfl) B.repr bt_repr (p_nm 0))).p ((q_b1 (c_repr hG (hu66 hr)) g_repr (by rfl) B.repr bt_repr (p_nm 1))).p))))), fun args Q E hl h => ?_⟩
  clear hl hr hG tk hp W EX H s outer A cdv f Df B
  obtain ⟨d, rfl, hp, hs, h⟩ := h
  refine ⟨.inr ⟨hp, hp⟩, fun h1 => ?_, fun h1 => ?_⟩
  · refine ⟨hp, hs, hp, hs, .inl rfl, ?_⟩
    have e : eqD (.str d.py.shown) (.str d.py.shown) = true := by simp [eqD]
    show Q (.fz (.bl (eqD (.str d.py.shown) (.str d.py.shown)))) []
    rw [e]
    exact h
  · simp [T.d, eqD_self 64 d hp] at h1

theorem ok_is_whole (Df : DefAt K mg "is_whole" s_is_whole ["thing"]) (B : Bt mg) : Callee P w K mg base 1 "is_whole" ["thing"] [] wholeS := by
  refine callee_of Df sc_is_whole (by decide) (by decide) fun f cdv A outer s H EX W hr hG tk hp => ?_
  refine ⟨_, (ss_one (s_ret (q_and (q_isi ki_int (by rfl) B.isinstance (by rfl) B.int bt_int (p_nm 0)) (q_one (q_not (q_isi ki_bl (by rfl) B.isinstance (by rfl) B.bool bt_bool (p_nm 0))))))), fun args Q E hl h => ?_⟩
  clear hl hr hG tk hp W EX H s outer A cdv f Df B
  obtain ⟨d, rfl, ht, h⟩ := h
  walk_at "nf"
  cases e : iB d with
  | some i => cases iB_some e; exact ⟨true, rfl, fun _ => ⟨false, rfl, h⟩, fun z => nomatch z⟩
  | none =>
    rcases ki_none ht e with ⟨b, rfl⟩ | hk
    · exact ⟨true, rfl, fun _ => ⟨true, rfl, h⟩, fun z => nomatch z⟩
    · exact ⟨false, hk, fun z => (nomatch z), fun _ => by simp only [whB, e] at h; exact h⟩
theorem ok_is_between (Df : DefAt K mg "is_between" s_is_between ["thing", "least", "most"]) (C_is_whole : Callee P w K mg base 1 "is_whole" ["thing"] [] wholeS) : Callee P w K mg base 2 "is_between" ["thing", "least", "most"] [] betweenS := by
  refine callee_of Df sc_is_between (by decide) (by decide) fun f cdv A outer s H EX W hr hG tk hp => ?_
  refine ⟨_, (ss_one (s_ret (q_and (q_callC C_is_whole tk (hr.mono (by decide)) hG (by rfl) (a_cons (p_nm 0).val a_nil) []) (q_one (q_chain op_le op_le (p_nm 1) (p_nm 0) (p_nm 2)))))), fun args Q E hl h => ?_⟩
  clear hl hr hG tk hp W EX H s outer A cdv f Df C_is_whole
  obtain ⟨d, lo, hi, rfl, ht, h⟩ := h
  walk_at "nf"
  refine ⟨d, rfl, ht, ?_⟩
  cases e : iB d with
  | some i =>
    cases iB_some e
    refine ⟨fun _ => ⟨decide (i ≤ hi), fun _ => ⟨rfl, rfl⟩, ?_⟩, fun z => nomatch z⟩
    simp only [btB, iB, Bool.decide_and] at h
    exact h
  | none =>
    simp only [whB, btB, e] at h ⊢
    exact ⟨fun z => (nomatch z), fun _ => h⟩
theorem ok_are_between (Df : DefAt K mg "are_between" s_are_between ["things", "least", "most"]) (C_is_between : Callee P w K mg base 2 "is_between" ["thing", "least", "most"] [] betweenS) : Callee P w K mg base 3 "are_between" ["things", "least", "most"] [] areS := by
  refine callee_of Df sc_are_between (by decide) (by decide) fun f cdv A outer s H EX W hr hG tk hp => ?_
  refine ⟨_, (ss_cons (s_for hp rfl (i_tup (p_nm 0).val) (g_name 3 sc_are_between.nd) (ss_one (s_if (t_not (t_val (q_callC C_is_between tk (hr.mono (by decide)) hG (by rfl) (a_cons (p_nm 3).val (a_cons (p_nm 1).val (a_cons (p_nm 2).val a_nil))) []))) (ss_one (s_ret q_bl)) ss_nil)))
      (ss_one (s_ret q_bl))), fun args Q E hl h => ?_⟩
  clear hl hr hG tk hp W EX H s outer A cdv f Df C_is_between
  obtain ⟨ds, lo, hi, rfl, ht, h⟩ := h
  walk_at "nf"
  refine .fr [3] (fun j vs => vs.length = 1 ∧ ((ds.take j).all fun d => btB d lo hi) = true) ⟨[_], rfl, rfl, rfl⟩ ?_ ?_
  · rintro j d vs hd ⟨hl, hk⟩
    match vs, hl with
    | [x], _ =>
    walk_at "nf"
    have ht2 := List.all_eq_true.mp ht d (List.mem_of_getElem? hd)
    refine ⟨_, _, _, rfl, ht2, fun z => ?_, fun z => ?_⟩
    · have : (ds.all fun d => btB d lo hi) = false := by
        rw [List.all_eq_false]
        exact ⟨d, List.mem_of_getElem? hd, by simpa using z⟩
      rw [this] at h
      exact h
    · refine ⟨[_], rfl, rfl, ?_⟩
      rw [List.take_add_one, hd, List.all_append, hk]
      simpa using z
  · rintro vs ⟨hl, hk⟩
    match vs, hl with
    | [x], _ =>
    rw [List.take_of_length_le (Nat.le_refl _)] at hk
    rw [hk] at h
    exact h
theorem ok_is_measure (Df : DefAt K mg "is_measure" s_is_measure ["thing"]) (B : Bt mg) (C_is_between : Callee P w K mg base 2 "is_between" ["thing", "least", "most"] [] betweenS) : Callee P w K mg base 3 "is_measure" ["thing"] [] measureS := by
  refine callee_of Df sc_is_measure (by decide) (by decide) fun f cdv A outer s H EX W hr hG tk hp => ?_
  refine ⟨_, (ss_one (s_ret (q_callC C_is_between tk (hr.mono (by decide)) hG (by rfl) (a_cons (p_nm 0).val (a_cons q_int (a_cons (q_glob (n := 1000000) (by rfl) B.g_MOST_MEASURE) a_nil))) []))), fun args Q E hl h => ?_⟩
  clear hl hr hG tk hp W EX H s outer A cdv f Df B C_is_between
  obtain ⟨d, rfl, ht, h⟩ := h
  exact ⟨d, 1, 1000000, rfl, ht, h⟩
theorem ok_is_number (Df : DefAt K mg "is_number" s_is_number ["thing"]) (B : Bt mg) (C_is_between : Callee P w K mg base 2 "is_between" ["thing", "least", "most"] [] betweenS) (C_are_between : Callee P w K mg base 3 "are_between" ["things", "least", "most"] [] areS) : Callee P w K mg base 4 "is_number" ["thing"] [] (oneT nuB) := by
  refine callee_of Df sc_is_number (by decide) (by decide) fun f cdv A outer s H EX W hr hG tk hp => ?_
  refine ⟨_, (ss_cons (s_if ((w_orM (t_not (t_val (q_isi ki_tup (by rfl) B.isinstance (by rfl) B.tuple bt_tuple (p_nm 0)))) (w_or1 (t_not (t_chain op_le op_le (q_int).p ((q_b1 c_len g_len (by rfl) B.len bt_len (p_nm 0))).p ((q_glob (n := 6) (by rfl) B.g_LONGEST_NUMBER)).p))))).t (ss_one (s_ret q_bl)) ss_nil)
      (ss_one (s_ret (q_and (q_callC C_is_between tk (hr.mono (by decide)) hG (by rfl) (a_cons (q_ix (p_nm 0) (q_int).p) (a_cons q_int (a_cons (q_glob (n := 24) (by rfl) B.g_MOST_OF_MARK) a_nil))) []) (q_one (q_callC C_are_between tk (hr.mono (by decide)) hG (by rfl) (a_cons ((q_slice (p_nm 0) (o_some q_int) o_none)).fz (a_cons q_int (a_cons (q_glob (n := 4) (by rfl) B.g_MOST_PART) a_nil))) [])))))), fun args Q E hl h => ?_⟩
  clear hl hr hG tk hp W EX H s outer A cdv f Df B C_is_between C_are_between
  obtain ⟨d, rfl, ht, h⟩ := h
  walk_at "nf"
  by_cases ht3 : ∃ ds, d = .nd .tup ds
  · obtain ⟨ds, rfl⟩ := ht3
    have hty : ds.all tyD = true := by have := ht; simp only [tyA, Bool.and_eq_true] at this; exact this.2
    refine ⟨true, rfl, !(decide ((1 : Int) ≤ ds.length) && decide ((ds.length : Int) ≤ 6)), fun _ => ⟨decide ((ds.length : Int) ≤ 6), fun _ => ⟨rfl, rfl⟩, rfl, rfl⟩, fun z => ?_, fun z => ?_⟩
    · have z2 : (decide ((1 : Int) ≤ ds.length) && decide ((ds.length : Int) ≤ 6)) = false := by revert z; cases (decide ((1 : Int) ≤ ds.length) && decide ((ds.length : Int) ≤ 6)) <;> simp
      simp only [nuB, z2, Bool.false_and] at h
      exact h
    have z2 : (decide ((1 : Int) ≤ ds.length) && decide ((ds.length : Int) ≤ 6)) = true := by revert z; cases (decide ((1 : Int) ≤ ds.length) && decide ((ds.length : Int) ≤ 6)) <;> simp
    match ds, hty, z2, h with
    | [], _, z2, _ => simp at z2
    | a :: r, hty, z2, h =>
      have hta : tyD a = true ∧ r.all tyD = true := by simpa using hty
      have h : Q (.fz (.bl (btB a 1 24 && r.all fun d => btB d 1 4))) [] := by
        simp only [nuB, z2, Bool.true_and, List.take_succ_cons, List.take_zero, List.all_cons, List.all_nil, Bool.and_true, List.drop_succ_cons, List.drop_zero] at h
        exact h
      walk_at "nf"
      refine ⟨a, at_int (Int.le_refl 0) rfl, ?_⟩
      refine ⟨a, 1, 24, rfl, hta.1, fun c => ?_, fun c => ?_⟩
      · rw [c, Bool.true_and] at h
        exact ⟨cutL (a :: r) (some 1) none, 1, 4, rfl, by rw [cut1]; exact hta.2, by rw [cut1]; exact h⟩
      · rw [c] at h
        exact h
  · have hk := kt_none ht fun ds e => ht3 ⟨ds, e⟩
    have hf : nuB d = false := by
      unfold nuB; split
      · exact absurd ⟨_, rfl⟩ ht3
      · rfl
    rw [hf] at h
    exact ⟨false, hk, true, fun z => (nomatch z), fun _ => h, fun z => nomatch z⟩
theorem ok_is_mark (Df : DefAt K mg "is_mark" s_is_mark ["thing"]) (B : Bt mg) (C_are_between : Callee P w K mg base 3 "are_between" ["things", "least", "most"] [] areS) : Callee P w K mg base 4 "is_mark" ["thing"] [] (oneT mkB) := by
  refine callee_of Df sc_is_mark (by decide) (by decide) fun f cdv A outer s H EX W hr hG tk hp => ?_
  refine ⟨_, (ss_one (s_ret (q_and (q_isi ki_tup (by rfl) B.isinstance (by rfl) B.tuple bt_tuple (p_nm 0)) (q_and (q_eq (hu65 hr) ((q_b1 c_len g_len (by rfl) B.len bt_len (p_nm 0))).p (q_int).p) (q_one (q_callC C_are_between tk (hr.mono (by decide)) hG (by rfl) (a_cons (p_nm 0).val (a_cons q_int (a_cons (q_glob (n := 24) (by rfl) B.g_MOST_OF_MARK) a_nil))) [])))))), fun args Q E hl h => ?_⟩
  clear hl hr hG tk hp W EX H s outer A cdv f Df B C_are_between
  obtain ⟨d, rfl, ht, h⟩ := h
  walk_at "nf"
  by_cases ht3 : ∃ ds, d = .nd .tup ds
  · obtain ⟨ds, rfl⟩ := ht3
    have hty : ds.all tyD = true := by have := ht; simp only [tyA, Bool.and_eq_true] at this; exact this.2
    refine ⟨true, rfl, fun _ => ⟨.inl rfl, fun z => ?_, fun z => ?_⟩, fun z => nomatch z⟩
    · have z2 : ds.length = 2 := by simp [eqD, T.d] at z; omega
      simp only [mkB, z2, decide_true, Bool.true_and] at h
      exact ⟨ds, 1, 24, rfl, hty, h⟩
    · have z2 : ¬ ds.length = 2 := by simp [eqD, T.d] at z; omega
      simp only [mkB, z2, decide_false, Bool.false_and] at h
      have z3 : (if false = true then !decide ((ds.length : Int) = 2) else decide ((ds.length : Int) = 2)) = false := z
      exact h
  · have hk := kt_none ht fun ds e => ht3 ⟨ds, e⟩
    have hf : mkB d = false := by
      unfold mkB; split
      · exact absurd ⟨_, rfl⟩ ht3
      · rfl
    rw [hf] at h
    exact ⟨false, hk, fun z => (nomatch z), fun _ => h⟩
theorem ok_is_pair (Df : DefAt K mg "is_pair" s_is_pair ["thing"]) (B : Bt mg) (C_is_number : Callee P w K mg base 4 "is_number" ["thing"] [] (oneT nuB)) (C_is_mark : Callee P w K mg base 4 "is_mark" ["thing"] [] (oneT mkB)) : Callee P w K mg base 5 "is_pair" ["thing"] [] (oneP prB) := by
  refine callee_of Df sc_is_pair (by decide) (by decide) fun f cdv A outer s H EX W hr hG tk hp => ?_
  refine ⟨_, (ss_one (s_ret (q_and (q_isi ki_tup (by rfl) B.isinstance (by rfl) B.tuple bt_tuple (p_nm 0)) (q_and (q_eq (hu65 hr) ((q_b1 c_len g_len (by rfl) B.len bt_len (p_nm 0))).p (q_int).p) (q_and (q_callC C_is_number tk (hr.mono (by decide)) hG (by rfl) (a_cons (q_ix (p_nm 0) (q_int).p) a_nil) []) (q_one (q_callC C_is_mark tk (hr.mono (by decide)) hG (by rfl) (a_cons (q_ix (p_nm 0) (q_int).p) a_nil) []))))))), fun args Q E hl h => ?_⟩
  clear hl hr hG tk hp W EX H s outer A cdv f Df B C_is_number C_is_mark
  obtain ⟨d, rfl, ht, h⟩ := h
  walk_at "nf"
  by_cases ht3 : ∃ ds, d = .nd .tup ds
  · obtain ⟨ds, rfl⟩ := ht3
    have hi := pt_tupI (n := 5) ht
    refine ⟨true, rfl, fun _ => ⟨.inl rfl, fun z => ?_, fun z => ?_⟩, fun z => nomatch z⟩
    · have z2 : ds.length = 2 := by simp [eqD, T.d] at z; omega
      match ds, z2, hi, h with
      | [a, b], _, hi, h =>
        have h : Q (.fz (.bl (nuB a && mkB b))) [] := h
        refine ⟨a, at_int (Int.le_refl 0) rfl, a, rfl, pt_tyA (hi a (by simp)), fun c => ?_, fun c => ?_⟩
        · rw [c, Bool.true_and] at h
          exact ⟨b, at_int (by decide) rfl, b, rfl, pt_tyA (hi b (by simp)), h⟩
        · rw [c] at h
          exact h
    · have z2 : ¬ ds.length = 2 := by simp [eqD, T.d] at z; omega
      have hf : prB (.nd .tup ds) = false := match ds, z2 with
        | [], _ => rfl
        | [_], _ => rfl
        | [_, _], z => absurd rfl z
        | _ :: _ :: _ :: _, _ => rfl
      rw [hf] at h
      exact h
  · have hk := kt_none (pt_tyA ht) fun ds e => ht3 ⟨ds, e⟩
    have hf : prB d = false := by
      unfold prB; split
      · exact absurd ⟨_, rfl⟩ ht3
      · rfl
    rw [hf] at h
    exact ⟨false, hk, fun z => (nomatch z), fun _ => h⟩
theorem ok_are_pairs (Df : DefAt K mg "are_pairs" s_are_pairs ["thing"]) (B : Bt mg) (C_is_pair : Callee P w K mg base 5 "is_pair" ["thing"] [] (oneP prB)) : Callee P w K mg base 6 "are_pairs" ["thing"] [] (oneP prsB) := by
  refine callee_of Df sc_are_pairs (by decide) (by decide) fun f cdv A outer s H EX W hr hG tk hp => ?_
  refine ⟨_, (ss_cons (s_if ((w_orM (t_not (t_val (q_isi ki_lst (by rfl) B.isinstance (by rfl) B.list bt_list (p_nm 0)))) (w_or1 (t_not (t_chain op_le op_le (q_int).p ((q_b1 c_len g_len (by rfl) B.len bt_len (p_nm 0))).p ((q_glob (n := 24) (by rfl) B.g_MOST_PAIRS)).p))))).t (ss_one (s_ret q_bl)) ss_nil)
      (ss_one (s_ret (q_b1 (cr_all rfl) g_all (by rfl) B.all bt_all ((q_lc (own := [("pair", 1)]) rfl sc_are_pairs.nd (i_list (p_nm 0).val) (blkOk_by (by rfl)) (fun _ _ _ _ _ => (g_name 1 sc_are_pairs.nd)) (fun _ _ _ _ _ => ts_nil) (fun _ _ _ _ _ => (q_callC C_is_pair takes0 (hr.mono (by decide)) hG (by rfl) (a_cons (p_nm 1).val a_nil) [])))).p)))), fun args Q E hl h => ?_⟩
  clear hl hr hG tk hp W EX H s outer A cdv f Df B C_is_pair
  obtain ⟨d, rfl, ht, h⟩ := h
  walk_at "nf"
  by_cases ht3 : ∃ ds, d = .nd .lst ds
  · obtain ⟨ds, rfl⟩ := ht3
    have hi := pt_lstI (n := 5) ht
    have hd : prsB (.nd .lst ds) = ((decide ((1 : Int) ≤ ds.length) && decide ((ds.length : Int) ≤ 24)) && ds.all prB) := rfl
    refine ⟨true, rfl, !(decide ((1 : Int) ≤ ds.length) && decide ((ds.length : Int) ≤ 24)), fun _ => ⟨decide ((ds.length : Int) ≤ 24), fun _ => ⟨rfl, rfl⟩, rfl, rfl⟩, fun z => ?_, fun z => ?_⟩
    · have z2 : (decide ((1 : Int) ≤ ds.length) && decide ((ds.length : Int) ≤ 24)) = false := by revert z; cases (decide ((1 : Int) ≤ ds.length) && decide ((ds.length : Int) ≤ 24)) <;> simp
      rw [hd, z2, Bool.false_and] at h
      exact h
    have z2 : (decide ((1 : Int) ≤ ds.length) && decide ((ds.length : Int) ≤ 24)) = true := by revert z; cases (decide ((1 : Int) ≤ ds.length) && decide ((ds.length : Int) ≤ 24)) <;> simp
    rw [hd, z2, Bool.true_and] at h
    walk_at "nf"
    refine .each ds id (List.map_id ds).symm (fun d => D.bl (prB d)) (fun j a hj => ⟨fun _ => ⟨a, rfl, pt_mono a (hi a (List.mem_of_getElem? hj)) (by decide), all_one hj, rfl⟩, fun z => nomatch z⟩) ⟨ds.map prB, by rw [List.map_map]; rfl, ?_⟩
    have e : (ds.map prB).all id = ds.all prB := by rw [List.all_map]; rfl
    rw [e]
    exact h
  · have hk := kl_none (pt_ty ht) fun ds e => ht3 ⟨ds, e⟩
    have hf : prsB d = false := by
      unfold prsB; split
      · exact absurd ⟨_, rfl⟩ ht3
      · rfl
    rw [hf] at h
    exact ⟨false, hk, true, fun z => (nomatch z), fun _ => h, fun z => nomatch z⟩
theorem ok_are_hauled (Df : DefAt K mg "are_hauled" s_are_hauled ["thing"]) (B : Bt mg) (C_is_mark : Callee P w K mg base 4 "is_mark" ["thing"] [] (oneT mkB)) : Callee P w K mg base 5 "are_hauled" ["thing"] [] (oneP mksB) := by
  refine callee_of Df sc_are_hauled (by decide) (by decide) fun f cdv A outer s H EX W hr hG tk hp => ?_
  refine ⟨_, (ss_cons (s_if ((w_orM (t_not (t_val (q_isi ki_lst (by rfl) B.isinstance (by rfl) B.list bt_list (p_nm 0)))) (w_or1 (t_not (t_chain op_le op_le (q_int).p ((q_b1 c_len g_len (by rfl) B.len bt_len (p_nm 0))).p (q_int).p))))).t (ss_one (s_ret q_bl)) ss_nil)
      (ss_one (s_ret (q_and (q_b1 (cr_all rfl) g_all (by rfl) B.all bt_all ((q_lc (own := [("mark", 1)]) rfl sc_are_hauled.nd (i_list (p_nm 0).val) (blkOk_by (by rfl)) (fun _ _ _ _ _ => (g_name 1 sc_are_hauled.nd)) (fun _ _ _ _ _ => ts_nil) (fun _ _ _ _ _ => (q_callC C_is_mark takes0 (hr.mono (by decide)) hG (by rfl) (a_cons (p_nm 1).val a_nil) [])))).p) (q_one (q_or (q_eq (hu65 hr) ((q_b1 c_len g_len (by rfl) B.len bt_len (p_nm 0))).p (q_int).p) (q_one (q_ne (hu65 hr) ((q_ix (p_nm 0) (q_int).p)).p ((q_ix (p_nm 0) (q_int).p)).p)))))))), fun args Q E hl h => ?_⟩
  clear hl hr hG tk hp W EX H s outer A cdv f Df B C_is_mark
  obtain ⟨d, rfl, ht, h⟩ := h
  walk_at "nf"
  by_cases ht3 : ∃ ds, d = .nd .lst ds
  · obtain ⟨ds, rfl⟩ := ht3
    have hi := pt_lstI (n := 5) ht
    have hd : mksB (.nd .lst ds) = ((decide ((1 : Int) ≤ ds.length) && decide ((ds.length : Int) ≤ 2)) && (ds.all mkB && dif2 ds)) := rfl
    refine ⟨true, rfl, !(decide ((1 : Int) ≤ ds.length) && decide ((ds.length : Int) ≤ 2)), fun _ => ⟨decide ((ds.length : Int) ≤ 2), fun _ => ⟨rfl, rfl⟩, rfl, rfl⟩, fun z => ?_, fun z => ?_⟩
    · have z2 : (decide ((1 : Int) ≤ ds.length) && decide ((ds.length : Int) ≤ 2)) = false := by revert z; cases (decide ((1 : Int) ≤ ds.length) && decide ((ds.length : Int) ≤ 2)) <;> simp
      rw [hd, z2, Bool.false_and] at h
      exact h
    have z2 : (decide ((1 : Int) ≤ ds.length) && decide ((ds.length : Int) ≤ 2)) = true := by revert z; cases (decide ((1 : Int) ≤ ds.length) && decide ((ds.length : Int) ≤ 2)) <;> simp
    rw [hd, z2, Bool.true_and] at h
    walk_at "nf"
    refine .each ds id (List.map_id ds).symm (fun d => D.bl (mkB d)) (fun j a hj => ⟨fun _ => ⟨a, rfl, pt_tyA (hi a (List.mem_of_getElem? hj)), all_one hj, rfl⟩, fun z => nomatch z⟩) ⟨ds.map mkB, by rw [List.map_map]; rfl, ?_⟩
    have e : (ds.map mkB).all id = ds.all mkB := by rw [List.all_map]; rfl
    rw [e]
    refine ⟨fun c => ?_, fun c => ?_⟩
    · rw [c, Bool.true_and] at h
      match ds, z2, c, h with
      | [], z2, _, _ => simp at z2
      | [a], _, _, h => exact ⟨.inl rfl, fun _ => h, fun z => by simp [eqD, T.d] at z⟩
      | [a, b], _, c, h =>
        have cab : mkB a = true ∧ mkB b = true := by simpa using c
        obtain ⟨ma, rfl, _⟩ := mkB_ex cab.1
        obtain ⟨mb, rfl, _⟩ := mkB_ex cab.2
        refine ⟨.inl rfl, fun z => by simp [eqD, T.d] at z, fun _ => ?_⟩
        exact ⟨_, at_int (Int.le_refl 0) rfl, _, at_int (by decide) rfl, .inr ⟨pl_mk64, pl_mk64⟩, h⟩
      | _ :: _ :: _ :: _, z2, _, _ => simp at z2; omega
    · rw [c] at h
      exact h
  · have hk := kl_none (pt_ty ht) fun ds e => ht3 ⟨ds, e⟩
    have hf : mksB d = false := by
      unfold mksB; split
      · exact absurd ⟨_, rfl⟩ ht3
      · rfl
    rw [hf] at h
    exact ⟨false, hk, true, fun z => (nomatch z), fun _ => h, fun z => nomatch z⟩
theorem ok_is_made (Df : DefAt K mg "is_made" s_is_made ["kind", "thing"]) (C_is_measure : Callee P w K mg base 3 "is_measure" ["thing"] [] measureS) (C_is_number : Callee P w K mg base 4 "is_number" ["thing"] [] (oneT nuB)) (C_is_mark : Callee P w K mg base 4 "is_mark" ["thing"] [] (oneT mkB)) (C_are_pairs : Callee P w K mg base 6 "are_pairs" ["thing"] [] (oneP prsB)) (C_are_hauled : Callee P w K mg base 5 "are_hauled" ["thing"] [] (oneP mksB)) (C_is_whole : Callee P w K mg base 1 "is_whole" ["thing"] [] wholeS) : Callee P w K mg base 7 "is_made" ["kind", "thing"] [] madeS := by
  refine callee_of Df sc_is_made (by decide) (by decide) fun f cdv A outer s H EX W hr hG tk hp => ?_
  refine ⟨_, (ss_cons (s_if (t_eq (hu65 hr) (p_nm 0) (q_str).p) (ss_one (s_ret (q_callC C_is_number tk (hr.mono (by decide)) hG (by rfl) (a_cons (p_nm 1).val a_nil) []))) ss_nil)
      (ss_cons (s_if (t_eq (hu65 hr) (p_nm 0) (q_str).p) (ss_one (s_ret (q_callC C_is_mark tk (hr.mono (by decide)) hG (by rfl) (a_cons (p_nm 1).val a_nil) []))) ss_nil)
      (ss_cons (s_if (t_eq (hu65 hr) (p_nm 0) (q_str).p) (ss_one (s_ret (q_callC C_are_pairs tk (hr.mono (by decide)) hG (by rfl) (a_cons (p_nm 1).val a_nil) []))) ss_nil)
      (ss_cons (s_if (t_eq (hu65 hr) (p_nm 0) (q_str).p) (ss_one (s_ret (q_callC C_are_hauled tk (hr.mono (by decide)) hG (by rfl) (a_cons (p_nm 1).val a_nil) []))) ss_nil)
      (ss_cons (s_if (t_eq (hu65 hr) (p_nm 0) (q_str).p) (ss_one (s_ret (q_and (q_callC C_is_whole tk (hr.mono (by decide)) hG (by rfl) (a_cons (p_nm 1).val a_nil) []) (q_one (q_chain op_le op_le (q_int).p (p_nm 1) (q_int).p))))) ss_nil)
      (ss_one (s_ret (q_callC C_is_measure tk (hr.mono (by decide)) hG (by rfl) (a_cons (p_nm 1).val a_nil) [])))))))), fun args Q E hl h => ?_⟩
  clear hl hr hG tk hp W EX H s outer A cdv f Df C_is_measure C_is_number C_is_mark C_are_pairs C_are_hauled C_is_whole
  obtain ⟨k, d, rfl, ht, h⟩ := h
  walk_at "nf"
  unfold madeB at h
  refine ⟨.inl rfl, fun z => ?_, fun z => ?_⟩
  · rw [if_pos (str_eq z)] at h
    exact ⟨d, rfl, pt_tyA ht, h⟩
  rw [if_neg (str_ne z)] at h
  walk_at "nf"
  refine ⟨.inl rfl, fun z => ?_, fun z => ?_⟩
  · rw [if_pos (str_eq z)] at h
    exact ⟨d, rfl, pt_tyA ht, h⟩
  rw [if_neg (str_ne z)] at h
  walk_at "nf"
  refine ⟨.inl rfl, fun z => ?_, fun z => ?_⟩
  · rw [if_pos (str_eq z)] at h
    exact ⟨d, rfl, ht, h⟩
  rw [if_neg (str_ne z)] at h
  walk_at "nf"
  refine ⟨.inl rfl, fun z => ?_, fun z => ?_⟩
  · rw [if_pos (str_eq z)] at h
    exact ⟨d, rfl, ht, h⟩
  rw [if_neg (str_ne z)] at h
  walk_at "nf"
  refine ⟨.inl rfl, fun z => ?_, fun z => ?_⟩
  · rw [if_pos (str_eq z)] at h
    refine ⟨d, rfl, pt_ty ht, fun c => ?_, fun c => ?_⟩
    · obtain ⟨i, rfl⟩ : ∃ i, d = .int i := by
        unfold whB iB at c
        split at c
        · exact ⟨_, rfl⟩
        · cases c
      refine ⟨decide (i ≤ 2), fun _ => ⟨rfl, rfl⟩, ?_⟩
      have e : btB (.int i) 0 2 = (decide ((0 : Int) ≤ i) && decide (i ≤ 2)) := by simp only [btB, iB, Bool.decide_and]
      rw [e] at h
      exact h
    · have e : btB d 0 2 = false := by
        unfold whB at c
        unfold btB
        cases q : iB d with
        | none => rfl
        | some i => rw [q] at c; cases c
      rw [e] at h
      exact h
  rw [if_neg (str_ne z)] at h
  exact ⟨d, rfl, pt_ty ht, h⟩
theorem ok_is_deed (Df : DefAt K mg "is_deed" s_is_deed ["thing"]) (B : Bt mg) (KT_MADE_OF : KTab K w mg "MADE_OF" tab_MADE_OF (taK K "MADE_OF")) (C_is_made : Callee P w K mg base 7 "is_made" ["kind", "thing"] [] madeS) : Callee P w K mg base 8 "is_deed" ["thing"] [] deedS := by
  refine callee_of Df sc_is_deed (by decide) (by decide) fun f cdv A outer s H EX W hr hG tk hp => ?_
  refine ⟨_, (ss_cons (s_if ((w_or (t_not (t_val (q_isi ki_tup (by rfl) B.isinstance (by rfl) B.tuple bt_tuple (p_nm 0)))) (w_or (t_eq (hu65 hr) ((q_b1 c_len g_len (by rfl) B.len bt_len (p_nm 0))).p (q_int).p) (w_or1 (t_not (t_val (q_isi ki_str (by rfl) B.isinstance (by rfl) B.str bt_str ((q_ix (p_nm 0) (q_int).p)).p))))))).t (ss_one (s_ret q_bl)) ss_nil)
      (ss_cons (s_set 1 (q_getKD (by rfl) KT_MADE_OF (q_ix (p_nm 0) (q_int).p)) sc_is_deed.nd)
      (ss_cons (s_if ((w_or (t_isN (p_nm 1) (q_non).p) (w_or1 (t_ne (hu65 hr) ((q_b1 c_len g_len (by rfl) B.len bt_len (p_nm 0))).p ((q_add ((q_lenKD KT_MADE_OF (by rfl) B.len (p_nm 1))).p (q_int).p)).p)))).t (ss_one (s_ret q_bl)) ss_nil)
      (ss_one (s_ret (q_b1 (cr_all rfl) g_all (by rfl) B.all bt_all ((q_lc (own := [("k", 2), ("kind", 3)]) rfl sc_is_deed.nd (i_enumKD KT_MADE_OF (by rfl) B.enumerate (p_nm 1).val) (blkOk_by (by rfl)) (fun _ _ _ _ _ => (g_tup (n := 2) rfl (gs_cons (g_name 2 sc_is_deed.nd) (gs_cons (g_name 3 sc_is_deed.nd) gs_nil)))) (fun _ _ _ _ _ => ts_nil) (fun _ _ _ _ _ => (q_callC C_is_made takes0 (hr.mono (by decide)) hG (by rfl) (a_cons (p_nm 3).val (a_cons (q_ix (p_nm 0) ((q_add (p_nm 2) (q_int).p)).p) a_nil)) [])))).p)))))), fun args Q E hl h => ?_⟩
  clear hl hr hG tk hp W EX H s outer A cdv f Df B KT_MADE_OF C_is_made
  obtain ⟨d, rfl, ht, h⟩ := h
  walk_at "nf"
  have no : deedB d = false → Q (.fz (.bl false)) [] := fun e => by rw [e] at h; exact h
  by_cases ht3 : ∃ ds, d = .nd .tup ds
  · obtain ⟨ds, rfl⟩ := ht3
    have hi := pt_tupI (n := 6) ht
    refine ⟨true, rfl, fun z => (nomatch z), fun _ => ⟨.inl rfl, fun z => ⟨fun _ => no ?_, fun z => nomatch z⟩, fun z => ?_⟩⟩
    · have z2 : ds = [] := by
        simp [eqD, T.d] at z
        first | exact z | exact List.length_eq_zero_iff.mp (by omega)
      rw [z2]
      rfl
    match ds, hi, z, h, no with
    | [], _, z, _, _ => simp [eqD, T.d] at z
    | a :: r, hi, _, h, no =>
    refine ⟨a, at_int (Int.le_refl 0) rfl, ?_⟩
    by_cases hs : ∃ x, a = .str x
    · obtain ⟨x, rfl⟩ := hs
      refine ⟨true, rfl, fun z => (nomatch z), fun _ => ?_⟩
      walk_at "nf"
      refine ⟨_, at_int (Int.le_refl 0) rfl, x, rfl, fun ks hk => ?_, fun hk => ?_⟩
      · walk_at "nf"
        have ek : kindsOf x = some ks := kinds_mem hk
        refine ⟨fun z => (nomatch z), fun _ => ?_⟩
        refine ⟨x, ks, hk, rfl, .inl rfl, fun z => no ?_, fun z => ?_⟩
        · have z2 : ¬ r.length = ks.length := len_ne z
          show (match kindsOf x with | some ks => decide (r.length = ks.length) && (ks.zip r).all fun p => madeB p.1 p.2 | none => false) = false
          rw [ek]
          simp [z2]
        · have z2 : r.length = ks.length := len_eq z
          have h : Q (.fz (.bl ((ks.zip r).all fun p => madeB p.1 p.2))) [] := by
            have e : deedB (.nd .tup (.str x :: r)) = ((ks.zip r).all fun p => madeB p.1 p.2) := by
              show (match kindsOf x with | some ks => decide (r.length = ks.length) && (ks.zip r).all fun p => madeB p.1 p.2 | none => false) = _
              rw [ek]
              simp [z2]
            rw [e] at h
            exact h
          walk_at "nf"
          refine ⟨x, ks, hk, rfl, ?_⟩
          refine .each (List.range ks.length) (fun k => .nd .tup [.int (k : Nat), .str (ks.getD k "")]) enum_strs (fun k => .bl (madeB (ks.getD k "") (r.getD k .non))) (fun j k hj => ?_) ⟨(List.range ks.length).map fun k => madeB (ks.getD k "") (r.getD k .non), by rw [List.map_map]; rfl, ?_⟩
          · have hk2 : k < ks.length := by simpa using List.mem_of_getElem? hj
            have hr := getD_at2 (ds := r) (k := k) (by omega)
            refine ⟨rfl, fun _ => ?_, fun z => nomatch z⟩
            refine ⟨_, at_int (by omega) (by have e : ((k : Int) + 1).toNat = k + 1 := by omega
                                             rw [e]; exact hr), _, _, rfl, hi _ (List.mem_cons_of_mem _ (List.mem_of_getElem? hr)), all_one hj, rfl⟩
          · rw [all_zip z2]
            exact h
      · walk_at "nf"
        refine ⟨fun _ => ⟨fun _ => no ?_, fun z => nomatch z⟩, fun z => nomatch z⟩
        show (match kindsOf x with | some ks => decide (r.length = ks.length) && (ks.zip r).all fun p => madeB p.1 p.2 | none => false) = false
        rw [kinds_no hk]
    · have hk := ks_none (pt_ty (hi a (by simp))) fun x e => hs ⟨x, e⟩
      refine ⟨false, hk, fun _ => no ?_, fun z => nomatch z⟩
      unfold deedB
      split
      · rename_i z r2 e
        injection e with e1 e2
        injection e2 with e3
        exact absurd ⟨_, e3⟩ hs
      · rfl
  · have hk := kt_none (pt_tyA ht) fun ds e => ht3 ⟨ds, e⟩
    refine ⟨false, hk, fun _ => ⟨fun _ => no ?_, fun z => nomatch z⟩, fun z => nomatch z⟩
    unfold deedB
    split
    · exact absurd ⟨_, rfl⟩ ht3
    · rfl
theorem ok_whole_in (Df : DefAt K mg "whole_in" s_whole_in ["word"]) (B : Bt mg) : Callee P w K mg base 1 "whole_in" ["word"] [] wholeInS := by
  refine callee_of Df sc_whole_in (by decide) (by decide) fun f cdv A outer s H EX W hr hG tk hp => ?_
  refine ⟨_, (ss_cons (s_if ((w_or (t_eq (hu65 hr) (p_nm 0) (q_str).p) (w_or (t_gt ((q_b1 c_len g_len (by rfl) B.len bt_len (p_nm 0))).p ((q_glob (n := 22) (by rfl) B.g_MOST_FIGURES)).p) (w_or1 ((w_and (t_eq (hu65 hr) ((q_ix (p_nm 0) (q_int).p)).p (q_str).p) (w_and1 (t_gt ((q_b1 c_len g_len (by rfl) B.len bt_len (p_nm 0))).p (q_int).p)))).t)))).t (ss_one (s_ret q_non)) ss_nil).cut
      (ss_cons (s_for hp rfl (i_str (p_nm 0).val) (g_name 1 sc_whole_in.nd) (ss_one (s_if (t_ni (hu65 hr) (p_nm 1) ((q_globS (s := "0123456789") (by rfl) B.g_FIGURES)).p) (ss_one (s_ret q_non)) ss_nil)))
      (ss_one (s_ret (q_intS (by rfl) B.int (p_nm 0)))))), fun args Q E hl h => ?_⟩
  clear hl hr hG tk hp W EX H s outer A cdv f Df B
  obtain ⟨x, rfl, hz, h⟩ := h
  walk_at "nf"
  have hz2 : x.length ≤ sizeLine := szN (Nat.le_trans hz (by decide))
  have bad : (TL.tl x = [] ∨ 22 < x.length ∨ ((TL.tl x).head? = some 48 ∧ 1 < x.length) ∨ digL (TL.tl x) = false) → Q (.fz .non) [] := fun q => by
    unfold whF at h
    rw [if_pos q] at h
    exact h
  refine .mk ⟨fun e => e = [some (.fz (.str x)), none] ∧ ¬ (TL.tl x = [] ∨ 22 < x.length ∨ ((TL.tl x).head? = some 48 ∧ 1 < x.length)), ?_, ?_⟩
  · refine ⟨.inl rfl, fun z => ⟨fun _ => bad (.inl ?_), fun z => nomatch z⟩, fun z => ⟨hz2, fun z2 => ⟨fun _ => bad (.inr (.inl ?_)), fun z => nomatch z⟩, fun z2 => ?_⟩⟩
    · rw [str_eq z]; rfl
    · have := of_decide_eq_true z2; omega
    have n1 : TL.tl x ≠ [] := fun e => str_ne z (TL.ext_tl e)
    have n2 : ¬ 22 < x.length := by have := of_decide_eq_false z2; omega
    obtain ⟨c, r, e⟩ : ∃ c r, TL.tl x = c :: r := by
      cases q : TL.tl x with
      | nil => exact absurd q n1
      | cons c r => exact ⟨c, r, rfl⟩
    refine ⟨hz2, c, by show atI (TL.tl x) 0 = some c; rw [e]; exact at_int (Int.le_refl 0) rfl, .inl rfl, fun z3 => ?_, fun z3 => ?_⟩
    · refine ⟨hz2, fun z4 => bad (.inr (.inr (.inl ⟨by rw [e, ch_eq z3]; rfl, ?_⟩))), fun z4 => ⟨rfl, ?_⟩⟩
      · have := of_decide_eq_true z4; omega
      · rintro (q | q | ⟨q, q2⟩)
        · exact n1 q
        · exact n2 q
        · have := of_decide_eq_false z4; omega
    · refine ⟨fun z => (nomatch z), fun _ => ⟨rfl, ?_⟩⟩
      rintro (q | q | ⟨q, q2⟩)
      · exact n1 q
      · exact n2 q
      · rw [e] at q
        have : c = 48 := by simpa using q
        subst this
        exact ch_ne (c := 48) z3 rfl
  rintro e ⟨rfl, hn⟩
  walk_at "nf"
  refine ⟨hz2, ?_⟩
  refine .over (TL.tl x) (fun c => .str ⟨#[c]⟩) rfl [1] (fun j vs => ∃ y, vs = [y] ∧ digL ((TL.tl x).take j) = true) ⟨[_], rfl, _, rfl, rfl⟩ ?_ ?_
  · rintro j c vs hj ⟨y, rfl, hk⟩
    refine ⟨c, rfl, fun z => bad (.inr (.inr (.inr ?_))), fun z => ?_⟩
    · unfold digL
      rw [List.all_eq_false]
      refine ⟨c, List.mem_of_getElem? hj, fun q => ?_⟩
      have q2 : c ∈ TL.tl "0123456789" := fig_mem q
      have z2 : (!decide (c ∈ TL.tl "0123456789")) = true := z
      rw [decide_eq_true q2] at z2
      cases z2
    · refine ⟨[_], rfl, _, rfl, ?_⟩
      have z2 : (!decide (c ∈ TL.tl "0123456789")) = false := z
      have z3 : c ∈ TL.tl "0123456789" := by
        cases q : decide (c ∈ TL.tl "0123456789")
        · rw [q] at z2; cases z2
        · exact of_decide_eq_true q
      unfold digL at hk ⊢
      rw [List.take_add_one, hj, List.all_append, hk]
      simp only [Option.toList_some, List.all_cons, List.all_nil, mem_fig z3]
      rfl
  · rintro vs ⟨y, rfl, hk⟩
    rw [List.take_length] at hk
    have hn2 : ¬ (TL.tl x = [] ∨ 22 < x.length ∨ ((TL.tl x).head? = some 48 ∧ 1 < x.length) ∨ digL (TL.tl x) = false) := by
      rintro (q | q | q | q)
      · exact hn (.inl q)
      · exact hn (.inr (.inl q))
      · exact hn (.inr (.inr q))
      · rw [hk] at q; cases q
    unfold whF at h
    rw [if_neg hn2] at h
    have l22 : x.length ≤ 22 := Nat.le_of_not_lt fun q => hn (.inr (.inl q))
    exact ⟨x, _, rfl, HandSX_int hk (fun q => hn (.inl q)) (by omega), by omega, h⟩
theorem ok_number_in (Df : DefAt K mg "number_in" s_number_in ["word"]) (B : Bt mg) (C_is_number : Callee P w K mg base 4 "is_number" ["thing"] [] (oneT nuB)) (C_whole_in : Callee P w K mg base 1 "whole_in" ["word"] [] wholeInS) : Callee P w K mg base 5 "number_in" ["word"] [] numInS := by
  refine callee_of Df sc_number_in (by decide) (by decide) fun f cdv A outer s H EX W hr hG tk hp => ?_
  refine ⟨_, (ss_cons (s_set 1 (q_ty1 call_tuple_of g_tuple (by rfl) B.tuple bt_tuple ((q_lc (own := [("part", 2)]) rfl sc_number_in.nd (i_list ((q_split (p_nm 0).val (q_str).p)).fz) (blkOk_by (by rfl)) (fun _ _ _ _ _ => (g_name 2 sc_number_in.nd)) (fun _ _ _ _ _ => ts_nil) (fun _ _ _ _ _ => (q_callC C_whole_in takes0 (hr.mono (by decide)) hG (by rfl) (a_cons (p_nm 2).val a_nil) [])))).p) sc_number_in.nd)
      (ss_cons (s_if (t_val (q_callC C_is_number tk (hr.mono (by decide)) hG (by rfl) (a_cons (p_nm 1).val a_nil) [])) (ss_one (s_ret (p_nm 1).val)) ss_nil)
      (ss_one (s_ret q_non)))), fun args Q E hl h => ?_⟩
  clear hl hr hG tk hp W EX H s outer A cdv f Df B C_is_number C_whole_in
  obtain ⟨x, rfl, hz, h⟩ := h
  walk_at "nf"
  refine ⟨_, rfl, by decide, szT hz, ?_⟩
  refine .each (Txt.split x ".") D.str rfl (fun p => oD (whF p)) (fun j a hj => ⟨fun _ => ⟨a, rfl, Nat.le_trans (split_part (List.mem_of_getElem? hj)) hz, all_one hj, rfl⟩, fun z => nomatch z⟩) ?_
  walk_at "nf"
  refine ⟨_, rfl, tyA_wh, fun c => ?_, fun c => ?_⟩
  · unfold nuF at h
    rw [if_pos c] at h
    exact h
  · unfold nuF at h
    rw [if_neg (by rw [c]; decide)] at h
    exact h
theorem ok_mark_in (Df : DefAt K mg "mark_in" s_mark_in ["word"]) (B : Bt mg) (C_is_mark : Callee P w K mg base 4 "is_mark" ["thing"] [] (oneT mkB)) (C_whole_in : Callee P w K mg base 1 "whole_in" ["word"] [] wholeInS) : Callee P w K mg base 5 "mark_in" ["word"] [] mkInS := by
  refine callee_of Df sc_mark_in (by decide) (by decide) fun f cdv A outer s H EX W hr hG tk hp => ?_
  refine ⟨_, (ss_cons (s_set 1 (q_ty1 call_tuple_of g_tuple (by rfl) B.tuple bt_tuple ((q_lc (own := [("part", 2)]) rfl sc_mark_in.nd (i_list ((q_split (p_nm 0).val (q_str).p)).fz) (blkOk_by (by rfl)) (fun _ _ _ _ _ => (g_name 2 sc_mark_in.nd)) (fun _ _ _ _ _ => ts_nil) (fun _ _ _ _ _ => (q_callC C_whole_in takes0 (hr.mono (by decide)) hG (by rfl) (a_cons (p_nm 2).val a_nil) [])))).p) sc_mark_in.nd)
      (ss_cons (s_if (t_val (q_callC C_is_mark tk (hr.mono (by decide)) hG (by rfl) (a_cons (p_nm 1).val a_nil) [])) (ss_one (s_ret (p_nm 1).val)) ss_nil)
      (ss_one (s_ret q_non)))), fun args Q E hl h => ?_⟩
  clear hl hr hG tk hp W EX H s outer A cdv f Df B C_is_mark C_whole_in
  obtain ⟨x, rfl, hz, h⟩ := h
  walk_at "nf"
  refine ⟨_, rfl, by decide, szT hz, ?_⟩
  refine .each (Txt.split x "/") D.str rfl (fun p => oD (whF p)) (fun j a hj => ⟨fun _ => ⟨a, rfl, Nat.le_trans (split_part (List.mem_of_getElem? hj)) hz, all_one hj, rfl⟩, fun z => nomatch z⟩) ?_
  walk_at "nf"
  refine ⟨_, rfl, tyA_wh, fun c => ?_, fun c => ?_⟩
  · unfold mkF at h
    rw [if_pos c] at h
    exact h
  · unfold mkF at h
    rw [if_neg (by rw [c]; decide)] at h
    exact h
theorem ok_pairs_in (Df : DefAt K mg "pairs_in" s_pairs_in ["words"]) (B : Bt mg) (C_number_in : Callee P w K mg base 5 "number_in" ["word"] [] numInS) (C_mark_in : Callee P w K mg base 5 "mark_in" ["word"] [] mkInS) : Callee P w K mg base 6 "pairs_in" ["words"] [] prInS := by
  refine callee_of Df sc_pairs_in (by decide) (by decide) fun f cdv A outer s H EX W hr hG tk hp => ?_
  refine ⟨_, (ss_one (s_ret (q_lc (own := [("k", 1)]) rfl sc_pairs_in.nd (i_tw (by rfl) B.range q_int (q_sub ((q_b1 c_len g_len (by rfl) B.len bt_len (p_nm 0))).p (q_int).p) q_int) (blkOk_by (by rfl)) (fun _ _ _ _ _ => (g_name 1 sc_pairs_in.nd)) (fun _ _ _ _ _ => ts_nil) (fun _ _ _ _ _ => (q_tup (a_cons (q_callC C_number_in takes0 (hr.mono (by decide)) hG (by rfl) (a_cons (q_ix (p_nm 0) (p_nm 1)) a_nil) []) (a_cons (q_callC C_mark_in takes0 (hr.mono (by decide)) hG (by rfl) (a_cons (q_ix (p_nm 0) ((q_add (p_nm 1) (q_int).p)).p) a_nil) []) a_nil))))))), fun args Q E hl h => ?_⟩
  clear hl hr hG tk hp W EX H s outer A cdv f Df B C_number_in C_mark_in
  obtain ⟨ws, rfl, hl, hz, h⟩ := h
  walk_at "nf"
  have hw : ((ws.map D.str).length : Int) = ws.length := by rw [List.length_map]
  refine ⟨rfl, by decide, by decide, ?_, ?_, ?_, ?_⟩
  · show -(2 ^ 62) ≤ (((ws.map D.str).length : Nat) : Int) - 1
    omega
  · show (((ws.map D.str).length : Nat) : Int) - 1 < 2 ^ 62
    omega
  · show (((ws.map D.str).length : Nat) : Int) - 1 - 0 ≤ (sizeLine : Nat)
    rw [sizeLine_eq]; omega
  have en : ((((ws.map D.str).length : Nat) : Int) - 1 - 0 + 1) / 2 = ((ws.length / 2 : Nat) : Int) := by omega
  rw [en, Int.toNat_natCast]
  refine .each (List.range (ws.length / 2)) (fun k => D.int (0 + (k : Nat) * 2)) rfl (fun k => .nd .tup [nuF (ws.getD (2 * k) ""), mkF (ws.getD (2 * k + 1) "")]) (fun j a hj => ⟨fun _ => ?_, fun z => nomatch z⟩) h
  have ha : a < ws.length / 2 := by
    have := List.mem_of_getElem? hj
    simpa using this
  have g1 := getD_at (ws := ws) (k := 2 * a) (by omega)
  have g2 := getD_at (ws := ws) (k := 2 * a + 1) (by omega)
  refine ⟨_, at_int (by omega) (by have e : ((0 : Int) + (a : Nat) * 2).toNat = 2 * a := by omega
                                   rw [e]; exact map_get g1), _, rfl, hz _ (List.mem_of_getElem? g1), ?_⟩
  refine ⟨_, at_int (by omega) (by have e : ((0 : Int) + (a : Nat) * 2 + 1).toNat = 2 * a + 1 := by omega
                                   rw [e]; exact map_get g2), _, rfl, hz _ (List.mem_of_getElem? g2), ?_⟩
  exact ⟨all_one hj, rfl⟩
theorem ok_deed_in (Df : DefAt K mg "deed_in" s_deed_in ["words"]) (B : Bt mg) (C_pairs_in : Callee P w K mg base 6 "pairs_in" ["words"] [] prInS) (C_number_in : Callee P w K mg base 5 "number_in" ["word"] [] numInS) (C_mark_in : Callee P w K mg base 5 "mark_in" ["word"] [] mkInS) (C_whole_in : Callee P w K mg base 1 "whole_in" ["word"] [] wholeInS) : Callee P w K mg base 7 "deed_in" ["words"] [] dinS := by
  refine callee_of Df sc_deed_in (by decide) (by decide) fun f cdv A outer s H EX W hr hG tk hp => ?_
  refine ⟨_, (ss_cons (s_set 1 (q_ix (p_nm 0) (q_int).p) sc_deed_in.nd)
      (ss_cons (s_if ((w_andM (t_eq (hu65 hr) (p_nm 1) (q_str).p) (w_and1 (t_eq (hu65 hr) ((q_mod ((q_b1 c_len g_len (by rfl) B.len bt_len (p_nm 0))).p (q_int).p)).p (q_int).p)))).t (ss_one (s_ret (q_tupT (at_cons (p_nm 1).val (at_cons (q_callC C_pairs_in tk (hr.mono (by decide)) hG (by rfl) (a_cons ((q_slice (p_nm 0) (o_some q_int) o_none)).fz a_nil) []) at_nil))))) ss_nil)
      (ss_cons (s_if (t_eq (hu65 hr) (p_nm 1) (q_str).p) (ss_one (s_ret (q_tupT (at_cons (p_nm 1).val (at_cons (q_lc (own := [("one", 2)]) rfl sc_deed_in.nd (i_list ((q_slice (p_nm 0) (o_some q_int) o_none)).fz) (blkOk_by (by rfl)) (fun _ _ _ _ _ => (g_name 2 sc_deed_in.nd)) (fun _ _ _ _ _ => ts_nil) (fun _ _ _ _ _ => (q_callC C_mark_in takes0 (hr.mono (by decide)) hG (by rfl) (a_cons (p_nm 2).val a_nil) []))) at_nil))))) ss_nil)
      (ss_cons (s_if ((w_andM (t_eq (hu65 hr) (p_nm 1) (q_str).p) (w_and1 (t_eq (hu65 hr) ((q_b1 c_len g_len (by rfl) B.len bt_len (p_nm 0))).p (q_int).p)))).t (ss_one (s_ret (q_tup (a_cons (p_nm 1).val (a_cons (q_callC C_number_in tk (hr.mono (by decide)) hG (by rfl) (a_cons (q_ix (p_nm 0) (q_int).p) a_nil) []) a_nil))))) ss_nil)
      (ss_cons (s_if ((w_andM (t_eq (hu65 hr) (p_nm 1) (q_str).p) (w_and1 (t_eq (hu65 hr) ((q_b1 c_len g_len (by rfl) B.len bt_len (p_nm 0))).p (q_int).p)))).t (ss_one (s_ret (q_tup (a_cons (p_nm 1).val (a_cons (q_callC C_number_in tk (hr.mono (by decide)) hG (by rfl) (a_cons (q_ix (p_nm 0) (q_int).p) a_nil) []) (a_cons (q_callC C_mark_in tk (hr.mono (by decide)) hG (by rfl) (a_cons (q_ix (p_nm 0) (q_int).p) a_nil) []) a_nil)))))) ss_nil)
      (ss_cons (s_if ((w_andM (t_eq (hu65 hr) (p_nm 1) (q_str).p) (w_and1 (t_eq (hu65 hr) ((q_b1 c_len g_len (by rfl) B.len bt_len (p_nm 0))).p (q_int).p)))).t (ss_one (s_ret (q_tup (a_cons (p_nm 1).val (a_cons (q_callC C_number_in tk (hr.mono (by decide)) hG (by rfl) (a_cons (q_ix (p_nm 0) (q_int).p) a_nil) []) (a_cons (q_callC C_whole_in tk (hr.mono (by decide)) hG (by rfl) (a_cons (q_ix (p_nm 0) (q_int).p) a_nil) []) (a_cons (q_callC C_whole_in tk (hr.mono (by decide)) hG (by rfl) (a_cons (q_ix (p_nm 0) (q_int).p) a_nil) []) a_nil))))))) ss_nil)
      (ss_cons (s_if (t_eq (hu65 hr) ((q_b1 c_len g_len (by rfl) B.len bt_len (p_nm 0))).p (q_int).p) (ss_one (s_ret (q_tup (a_cons (p_nm 1).val (a_cons (q_callC C_mark_in tk (hr.mono (by decide)) hG (by rfl) (a_cons (q_ix (p_nm 0) (q_int).p) a_nil) []) a_nil))))) ss_nil)
      (ss_one (s_ret q_non))))))))), fun args Q E hl h => ?_⟩
  clear hl hr hG tk hp W EX H s outer A cdv f Df B C_pairs_in C_number_in C_mark_in C_whole_in
  obtain ⟨ws, rfl, hne, hl, hz, h⟩ := h
  walk_at "nf"
  match ws, hne, hl, hz, h with
  | w0 :: r, _, hl, hz, h =>
  refine ⟨_, at_int (Int.le_refl 0) rfl, ?_⟩
  rw [din_cons] at h
  have lw : ((((w0 :: r).map D.str).length : Nat) : Int) = r.length + 1 := by rw [List.length_map, List.length_cons]; omega
  have hr : ∀ {k : Nat}, k < r.length → shT (r.getD k "") := fun {k} hk => hz _ (List.mem_cons_of_mem _ (List.mem_of_getElem? (getD_at hk)))
  have ge : ∀ {k : Nat}, k < r.length → atI ((w0 :: r).map D.str) ((k : Int) + 1) = some (.str (r.getD k "")) := fun {k} hk => at_int (by omega) (by
    have e : ((k : Int) + 1).toNat = k + 1 := by omega
    rw [e]
    exact map_get (ws := w0 :: r) (k := k + 1) (show (w0 :: r)[k + 1]? = _ from getD_at (ws := r) hk))
  have le : ∀ n : Nat, eqD (.int (((w0 :: r).map D.str).length : Nat)) (.int (n + 1 : Nat)) = decide (r.length = n) := fun n => by rw [lw]; simp [eqD]; omega
  walk_at "nf"
  refine ⟨.inl rfl, decide ((r.length + 1) % 2 = 1), fun _ => ⟨show (0 : Int) < 2 by decide, .inl rfl, ?_, rfl⟩, fun z => ?_, fun z => ?_⟩
  · show eqD (.int ((((w0 :: r).map D.str).length : Nat) % 2)) (.int 1) = _
    rw [lw]; simp [eqD]; omega
  · have z1 : w0 = "regive" ∧ (r.length + 1) % 2 = 1 := and_split z
    rw [if_pos z1] at h
    exact ⟨r, by rw [List.map_cons, cut1]; rfl, by rw [List.length_cons] at hl; omega, fun x hx => hz x (List.mem_cons_of_mem _ hx), h⟩
  rw [if_neg (not_and z)] at h
  walk_at "nf"
  refine ⟨.inl rfl, fun z => ?_, fun z => ?_⟩
  · rw [if_pos (str_eq z)] at h
    exact .each r D.str (by rw [List.map_cons, cut1]; rfl) mkF (fun j a hj => ⟨fun _ => ⟨a, rfl, hz a (List.mem_cons_of_mem _ (List.mem_of_getElem? hj)), all_one hj, rfl⟩, fun z => nomatch z⟩) h
  rw [if_neg (str_ne z)] at h
  walk_at "nf"
  refine ⟨.inl rfl, decide (r.length = 1), fun _ => ⟨.inl rfl, le 1, rfl⟩, fun z => ?_, fun z => ?_⟩
  · have z1 := and_split z
    rw [if_pos z1] at h
    exact ⟨_, ge (k := 0) (by omega), _, rfl, hr (k := 0) (by omega), h⟩
  rw [if_neg (not_and z)] at h
  walk_at "nf"
  refine ⟨.inl rfl, decide (r.length = 2), fun _ => ⟨.inl rfl, le 2, rfl⟩, fun z => ?_, fun z => ?_⟩
  · have z1 := and_split z
    rw [if_pos z1] at h
    exact ⟨_, ge (k := 0) (by omega), _, rfl, hr (k := 0) (by omega), _, ge (k := 1) (by omega), _, rfl, hr (k := 1) (by omega), h⟩
  rw [if_neg (not_and z)] at h
  walk_at "nf"
  refine ⟨.inl rfl, decide (r.length = 3), fun _ => ⟨.inl rfl, le 3, rfl⟩, fun z => ?_, fun z => ?_⟩
  · have z1 := and_split z
    rw [if_pos z1] at h
    exact ⟨_, ge (k := 0) (by omega), _, rfl, hr (k := 0) (by omega), _, ge (k := 1) (by omega), _, rfl, hr (k := 1) (by omega), _, ge (k := 2) (by omega), _, rfl, hr (k := 2) (by omega), h⟩
  rw [if_neg (not_and z)] at h
  walk_at "nf"
  refine ⟨.inl rfl, fun z => ?_, fun z => ?_⟩
  · have z1 : decide (r.length = 1) = true := (le 1).symm.trans z
    rw [if_pos (of_decide_eq_true z1)] at h
    exact ⟨_, ge (k := 0) (by have := of_decide_eq_true z1; omega), _, rfl, hr (k := 0) (by have := of_decide_eq_true z1; omega), h⟩
  · have z1 : decide (r.length = 1) = false := (le 1).symm.trans z
    rw [if_neg (of_decide_eq_false z1)] at h
    exact h

theorem ok_read_number (Df : DefAt K mg "read_number" s_read_number ["text"]) (B : Bt mg) (R_NoText : BareG P w K mg base 1 "NoText" (ca "NoText")) (C_number_in : Callee P w K mg base 5 "number_in" ["word"] [] numInS) : Callee P w K mg base 6 "read_number" ["text"] [] (rdNS ca) := by
  refine callee_of Df sc_read_number (by decide) (by decide) fun f cdv A outer s H EX W hr hG tk hp => ?_
  refine ⟨_, (ss_cons (s_if (t_not (t_val (q_isi ki_str (by rfl) B.isinstance (by rfl) B.str bt_str (p_nm 0)))) (ss_one (s_raise0 ⟨R_NoText.1, R_NoText.2⟩ tk rfl (hr.mono (by decide)) (by rfl))) ss_nil)
      (ss_cons (s_set 1 (q_callC C_number_in tk (hr.mono (by decide)) hG (by rfl) (a_cons (p_nm 0).val a_nil) []) sc_read_number.nd)
      (ss_cons (s_if (t_isN (p_nm 1) (q_non).p) (ss_one (s_raise0 ⟨R_NoText.1, R_NoText.2⟩ tk rfl (hr.mono (by decide)) (by rfl))) ss_nil)
      (ss_one (s_ret (p_nm 1).val))))), fun args Q E hl h => ?_⟩
  clear hl hr hG tk hp W EX H s outer A cdv f Df B R_NoText C_number_in
  obtain ⟨d, rfl, ht, h1, h2⟩ := h
  walk_at "nf"
  rcases ht with ⟨x, rfl, hz⟩ | ⟨hn, ht⟩
  · refine ⟨true, rfl, fun z => (nomatch z), fun _ => ?_⟩
    refine ⟨x, rfl, hz, ?_⟩
    walk_at "nf"
    refine ⟨fun z => ?_, fun z => ?_⟩
    · exact h1 fun y e => by cases e; exact non_of z
    · exact h2 x rfl fun e => by rw [e] at z; exact nomatch z
  · exact ⟨false, ks_none ht hn, fun _ => h1 fun x e => absurd e (hn x), fun z => nomatch z⟩
theorem ok_read_mark (Df : DefAt K mg "read_mark" s_read_mark ["text"]) (B : Bt mg) (R_NoText : BareG P w K mg base 1 "NoText" (ca "NoText")) (C_mark_in : Callee P w K mg base 5 "mark_in" ["word"] [] mkInS) : Callee P w K mg base 6 "read_mark" ["text"] [] (rdMS ca) := by
  refine callee_of Df sc_read_mark (by decide) (by decide) fun f cdv A outer s H EX W hr hG tk hp => ?_
  refine ⟨_, (ss_cons (s_if (t_not (t_val (q_isi ki_str (by rfl) B.isinstance (by rfl) B.str bt_str (p_nm 0)))) (ss_one (s_raise0 ⟨R_NoText.1, R_NoText.2⟩ tk rfl (hr.mono (by decide)) (by rfl))) ss_nil)
      (ss_cons (s_set 1 (q_callC C_mark_in tk (hr.mono (by decide)) hG (by rfl) (a_cons (p_nm 0).val a_nil) []) sc_read_mark.nd)
      (ss_cons (s_if (t_isN (p_nm 1) (q_non).p) (ss_one (s_raise0 ⟨R_NoText.1, R_NoText.2⟩ tk rfl (hr.mono (by decide)) (by rfl))) ss_nil)
      (ss_one (s_ret (p_nm 1).val))))), fun args Q E hl h => ?_⟩
  clear hl hr hG tk hp W EX H s outer A cdv f Df B R_NoText C_mark_in
  obtain ⟨d, rfl, ht, h1, h2⟩ := h
  walk_at "nf"
  rcases ht with ⟨x, rfl, hz⟩ | ⟨hn, ht⟩
  · refine ⟨true, rfl, fun z => (nomatch z), fun _ => ?_⟩
    refine ⟨x, rfl, hz, ?_⟩
    walk_at "nf"
    refine ⟨fun z => ?_, fun z => ?_⟩
    · exact h1 fun y e => by cases e; exact non_of z
    · exact h2 x rfl fun e => by rw [e] at z; exact nomatch z
  · exact ⟨false, ks_none ht hn, fun _ => h1 fun x e => absurd e (hn x), fun z => nomatch z⟩
theorem ok_read_deed (Df : DefAt K mg "read_deed" s_read_deed ["text"]) (B : Bt mg) (R_NoText : BareG P w K mg base 1 "NoText" (ca "NoText")) (C_deed_in : Callee P w K mg base 7 "deed_in" ["words"] [] dinS) (C_is_deed : Callee P w K mg base 8 "is_deed" ["thing"] [] deedS) : Callee P w K mg base 9 "read_deed" ["text"] [] (rdDS ca) := by
  refine callee_of Df sc_read_deed (by decide) (by decide) fun f cdv A outer s H EX W hr hG tk hp => ?_
  refine ⟨_, (ss_cons (s_if (t_not (t_val (q_isi ki_str (by rfl) B.isinstance (by rfl) B.str bt_str (p_nm 0)))) (ss_one (s_raise0 ⟨R_NoText.1, R_NoText.2⟩ tk rfl (hr.mono (by decide)) (by rfl))) ss_nil)
      (ss_cons (s_set 1 (q_callC C_deed_in tk (hr.mono (by decide)) hG (by rfl) (a_cons ((q_split (p_nm 0).val (q_str).p)).fz a_nil) []) sc_read_deed.nd)
      (ss_cons (s_if (t_not (t_val (q_callCB C_is_deed tk (hr.mono (by decide)) hG (by rfl) (a_own 1 a_nil)))) (ss_one (s_raise0 ⟨R_NoText.1, R_NoText.2⟩ tk rfl (hr.mono (by decide)) (by rfl))) ss_nil)
      (ss_one (s_ret (q_mvn 1)))))), fun args Q E hl h => ?_⟩
  clear hl hr hG tk hp W EX H s outer A cdv f Df B R_NoText C_deed_in C_is_deed
  obtain ⟨d, rfl, ht, h1, h2⟩ := h
  walk_at "nf"
  rcases ht with ⟨x, rfl, hz⟩ | ⟨hn, ht⟩
  · refine ⟨true, rfl, fun z => (nomatch z), fun _ => ?_⟩
    refine ⟨_, rfl, by decide, szT hz, ?_⟩
    refine ⟨_, rfl, split_ne, Nat.le_trans split_len (Nat.le_trans (Nat.add_le_add_right hz 2) (by decide)), fun p hp => Nat.le_trans (split_part hp) hz, ?_⟩
    walk_at "nf"
    refine ⟨_, rfl, din_pt, rfl, fun z => ?_, fun z => ?_⟩
    · exact h1 fun y e => by cases e; simpa using z
    · exact h2 x rfl (by simpa using z)
  · exact ⟨false, ks_none ht hn, fun _ => h1 fun x e => absurd e (hn x), fun z => nomatch z⟩

theorem ok_number (Df : DefAt K mg "_law_number" s_number ["_law_bag_here"]) (B : Bt mg) (C_take : Callee P w K mg base 1 "_law_take" ["_law_bag_here", "_law_many"] [0] takeS) : Callee P w K mg base 2 "_law_number" ["_law_bag_here"] [0] lnumS := by
  refine callee_of Df sc_number (by decide) (by decide) fun f cdv A outer s H EX W hr hG tk hp => ?_
  refine ⟨_, (ss_cons (s_set 1 (q_lst (a_cons (q_add (q_int).p ((q_callC C_take tk (hr.mono (by decide)) hG (by rfl) (a_own 0 (a_cons q_int a_nil)) [0])).p) a_nil)) sc_number.nd)
      (ss_cons (s_for hp rfl (i_rng (by rfl) B.range (q_ix ((q_lst (a_cons q_int (a_cons (q_callC C_take tk (hr.mono (by decide)) hG (by rfl) (a_own 0 (a_cons q_int a_nil)) [0]) (a_cons (q_callC C_take tk (hr.mono (by decide)) hG (by rfl) (a_own 0 (a_cons q_int a_nil)) [0]) a_nil))))).p ((q_callC C_take tk (hr.mono (by decide)) hG (by rfl) (a_own 0 (a_cons q_int a_nil)) [0])).p)) (g_name 2 sc_number.nd) (ss_one (s_expr (q_append 1 (a_cons (q_add (q_int).p ((q_callC C_take tk (hr.mono (by decide)) hG (by rfl) (a_own 0 (a_cons q_int a_nil)) [0])).p) a_nil)))))
      (ss_one (s_ret (q_ty1 call_tuple_of g_tuple (by rfl) B.tuple bt_tuple (p_nm 1)))))), fun args Q E hl h => ?_⟩
  clear hl hr hG tk hp W EX H s outer A cdv f Df B C_take
  obtain ⟨t, rfl, hb, h⟩ := h
  walk_at "nf"
  refine ⟨_, _, rfl, hb, by decide, by decide, fun v t1 v0 v1 hb1 => ?_⟩
  walk_at "nf"
  refine ⟨_, _, rfl, hb1, by decide, by decide, fun v2 t2 v20 v21 hb2 => ?_⟩
  walk_at "nf"
  refine ⟨_, _, rfl, hb2, by decide, by decide, fun v3 t3 v30 v31 hb3 => ?_⟩
  walk_at "nf"
  refine ⟨_, _, rfl, hb3, by decide, by decide, fun v4 t4 v40 v41 hb4 => ?_⟩
  refine at_all (C := fun d => ∃ n : Int, d = .int n ∧ 0 ≤ n ∧ n ≤ 5) v40 v41 ?_ ?_
  · intro d hd
    simp at hd
    rcases hd with rfl | rfl | rfl <;> exact ⟨_, rfl, by omega, by omega⟩
  rintro _ ⟨n, rfl, n0, n5⟩
  walk_at "nf"
  refine ⟨szI (by omega), by omega, ?_⟩
  refine .rng [0, 1, 2] (fun j vs => ∃ t r a, vs = [some t, some (.ow .lst (((1 + v) :: r).map .int)), a] ∧ IsBag t ∧ r.length = j ∧ ∀ x, x ∈ r → 1 ≤ x ∧ x ≤ 4) ⟨[_, _, _], rfl, _, [], _, rfl, hb4, rfl, by simp⟩ ?_ ?_
  · rintro j vs hj ⟨t', r, a, rfl, hb', hl, hr⟩
    walk_at "nf"
    refine ⟨rfl, _, _, rfl, hb', by decide, by decide, fun x t5 x0 x1 hb5 => ?_⟩
    walk_at "nf"
    refine ⟨szL (by simp; omega), ?_⟩
    exact ⟨[_, _, _], rfl, t5, r ++ [1 + x], _, by rw [← List.cons_append, List.map_append]; rfl, hb5, by simp [hl], fun y hy => by
      rcases List.mem_append.mp hy with q | q
      · exact hr y q
      · simp at q; omega⟩
  · rintro vs ⟨t', r, a, rfl, hb', hl, hr⟩
    walk_at "nf"
    exact h ((1 + v) :: r) _ ⟨_, _, rfl, by omega, by omega, hr⟩ hb'
theorem ok_mark (Df : DefAt K mg "_law_mark" s_mark ["_law_bag_here"]) (C_take : Callee P w K mg base 1 "_law_take" ["_law_bag_here", "_law_many"] [0] takeS) : Callee P w K mg base 2 "_law_mark" ["_law_bag_here"] [0] lmarkS := by
  refine callee_of Df sc_mark (by decide) (by decide) fun f cdv A outer s H EX W hr hG tk hp => ?_
  refine ⟨_, (ss_cons (s_set 1 (q_ix ((q_lst (a_cons q_int (a_cons q_int a_nil)))).p ((q_callC C_take tk (hr.mono (by decide)) hG (by rfl) (a_own 0 (a_cons q_int a_nil)) [0])).p) sc_mark.nd)
      (ss_one (s_ret (q_tup (a_cons (q_add (q_int).p ((q_callC C_take tk (hr.mono (by decide)) hG (by rfl) (a_own 0 (a_cons (p_nm 1).val a_nil)) [0])).p) (a_cons (q_add (q_int).p ((q_callC C_take tk (hr.mono (by decide)) hG (by rfl) (a_own 0 (a_cons (p_nm 1).val a_nil)) [0])).p) a_nil)))))), fun args Q E hl h => ?_⟩
  clear hl hr hG tk hp W EX H s outer A cdv f Df C_take
  obtain ⟨t, rfl, hb, h⟩ := h
  walk_at "nf"
  refine ⟨_, _, rfl, hb, by decide, by decide, fun v t1 v0 v1 hb1 => ?_⟩
  refine at_all (C := fun d => ∃ n : Int, d = .int n ∧ 3 ≤ n ∧ n ≤ 24) v0 v1 ?_ ?_
  · intro d hd
    simp at hd
    rcases hd with rfl | rfl <;> exact ⟨_, rfl, by omega, by omega⟩
  rintro _ ⟨n, rfl, n0, n5⟩
  walk_at "nf"
  refine ⟨_, _, rfl, hb1, by omega, by omega, fun v2 t2 v20 v21 hb2 => ?_⟩
  walk_at "nf"
  refine ⟨_, _, rfl, hb2, by omega, by omega, fun v3 t3 v30 v31 hb3 => ?_⟩
  exact h (1 + v2, 1 + v3) _ ⟨⟨by show 1 ≤ 1 + v2; omega, by show 1 + v2 ≤ 24; omega⟩, by show 1 ≤ 1 + v3; omega, by show 1 + v3 ≤ 24; omega⟩ hb3
theorem ok_marks (Df : DefAt K mg "_law_marks" s_marks ["_law_bag_here"]) (C_mark : Callee P w K mg base 2 "_law_mark" ["_law_bag_here"] [0] lmarkS) (C_take : Callee P w K mg base 1 "_law_take" ["_law_bag_here", "_law_many"] [0] takeS) : Callee P w K mg base 3 "_law_marks" ["_law_bag_here"] [0] lmarksS := by
  refine callee_of Df sc_marks (by decide) (by decide) fun f cdv A outer s H EX W hr hG tk hp => ?_
  refine ⟨_, (ss_cons (s_set 1 (q_lst (a_cons (q_callC C_mark tk (hr.mono (by decide)) hG (by rfl) (a_own 0 a_nil) [0]) a_nil)) sc_marks.nd)
      (ss_cons (s_set 2 (q_callC C_mark tk (hr.mono (by decide)) hG (by rfl) (a_own 0 a_nil) [0]) sc_marks.nd)
      (ss_cons (s_if ((w_and (t_ne (hu65 hr) (p_nm 2) ((q_ix (p_nm 1) (q_int).p)).p) (w_and1 (t_gt ((q_callC C_take tk (hr.mono (by decide)) hG (by rfl) (a_own 0 (a_cons q_int a_nil)) [0])).p (q_int).p)))).t (ss_one (s_expr (q_append 1 (a_cons (p_nm 2).val a_nil)))) ss_nil)
      (ss_one (s_ret (q_fzn 1)))))), fun args Q E hl h => ?_⟩
  clear hl hr hG tk hp W EX H s outer A cdv f Df C_mark C_take
  obtain ⟨t, rfl, hb, h⟩ := h
  walk_at "nf"
  refine ⟨_, rfl, hb, fun m t1 hm hb1 => ?_⟩
  walk_at "nf"
  refine ⟨_, rfl, hb1, fun m2 t2 hm2 hb2 => ?_⟩
  walk_at "nf"
  have one : ∀ t', IsBag t' → Q (.fz (.nd .lst [mkD m])) [t'] := fun t' hb' => h [m] t' (by simp) (by simp) (fun x hx => by simp at hx; subst hx; exact hm) (by simp) hb'
  refine ⟨_, at_int (Int.le_refl 0) rfl, .inr ⟨pl_mk64, pl_mk64⟩, fun z => ?_, fun z => ?_⟩
  · have ne : m2 ≠ m := fun e => by
      subst e
      have z2 : (!eqD (mkD m2) (mkD m2)) = true := z
      rw [eqD_self 64 _ pl_mk64] at z2
      cases z2
    refine ⟨_, _, rfl, hb2, by decide, by decide, fun v3 t3 v30 v31 hb3 => ?_⟩
    refine ⟨fun _ => ?_, fun _ => one _ hb3⟩
    walk_at "nf"
    refine ⟨rfl, szL (by show (1 : Nat) < _; decide), ?_⟩
    exact h [m, m2] _ (by simp) (by simp) (fun x hx => by simp at hx; rcases hx with rfl | rfl <;> assumption) (by simp; exact fun e => ne e.symm) hb3
  · exact ⟨fun z => (nomatch z), fun _ => one _ hb2⟩
theorem ok_deed (Df : DefAt K mg "_law_deed" s_deed ["_law_bag_here"]) (B : Bt mg) (C_number : Callee P w K mg base 2 "_law_number" ["_law_bag_here"] [0] lnumS) (C_mark : Callee P w K mg base 2 "_law_mark" ["_law_bag_here"] [0] lmarkS) (C_take : Callee P w K mg base 1 "_law_take" ["_law_bag_here", "_law_many"] [0] takeS) (C_marks : Callee P w K mg base 3 "_law_marks" ["_law_bag_here"] [0] lmarksS) : Callee P w K mg base 4 "_law_deed" ["_law_bag_here"] [0] ldeedS := by
  refine callee_of Df sc_deed (by decide) (by decide) fun f cdv A outer s H EX W hr hG tk hp => ?_
  refine ⟨_, (ss_cons (s_set 1 (q_ix ((q_lst (a_cons q_str (a_cons q_str (a_cons q_str (a_cons q_str (a_cons q_str (a_cons q_str (a_cons q_str (a_cons q_str (a_cons q_str (a_cons q_str a_nil)))))))))))).p ((q_callC C_take tk (hr.mono (by decide)) hG (by rfl) (a_own 0 (a_cons q_int a_nil)) [0])).p) sc_deed.nd)
      (ss_cons (s_if (t_eq (hu65 hr) (p_nm 1) (q_str).p) (ss_cons (s_set 2 (q_add (q_int).p ((q_callC C_take tk (hr.mono (by decide)) hG (by rfl) (a_own 0 (a_cons (q_ix ((q_lst (a_cons q_int (a_cons q_int a_nil)))).p ((q_callC C_take tk (hr.mono (by decide)) hG (by rfl) (a_own 0 (a_cons q_int a_nil)) [0])).p) a_nil)) [0])).p) sc_deed.nd)
      (ss_one (s_ret (q_tup (a_cons (p_nm 1).val (a_cons ((q_lc (own := [("_law_k", 3)]) rfl sc_deed.nd (i_rng (by rfl) B.range (p_nm 2).val) (blkOk_by (by rfl)) (fun _ _ _ _ _ => (g_name 3 sc_deed.nd)) (fun _ _ _ _ _ => ts_nil) (fun _ _ _ _ _ => (q_tup (a_cons (q_callC C_number takes0 (hr.mono (by decide)) hG (by rfl) (a_own 0 a_nil) [0]) (a_cons (q_callC C_mark takes0 (hr.mono (by decide)) hG (by rfl) (a_own 0 a_nil) [0]) a_nil)))))).fz a_nil)))))) ss_nil)
      (ss_cons (s_if (t_eq (hu65 hr) (p_nm 1) (q_str).p) (ss_one (s_ret (q_tup (a_cons (p_nm 1).val (a_cons (q_callC C_marks tk (hr.mono (by decide)) hG (by rfl) (a_own 0 a_nil) [0]) a_nil))))) ss_nil)
      (ss_cons (s_set 4 (q_callC C_number tk (hr.mono (by decide)) hG (by rfl) (a_own 0 a_nil) [0]) sc_deed.nd)
      (ss_cons (s_set 5 (q_callC C_mark tk (hr.mono (by decide)) hG (by rfl) (a_own 0 a_nil) [0]) sc_deed.nd)
      (ss_cons (s_if (t_eq (hu65 hr) (p_nm 1) (q_str).p) (ss_one (s_ret (q_tup (a_cons (p_nm 1).val (a_cons (p_nm 4).val a_nil))))) ss_nil)
      (ss_cons (s_if (t_eq (hu65 hr) (p_nm 1) (q_str).p) (ss_one (s_ret (q_tup (a_cons (p_nm 1).val (a_cons (p_nm 4).val (a_cons (p_nm 5).val a_nil)))))) ss_nil)
      (ss_cons (s_if (t_eq (hu65 hr) (p_nm 1) (q_str).p) (ss_cons (s_set 6 (q_ix ((q_lst (a_cons q_int (a_cons q_int a_nil)))).p ((q_callC C_take tk (hr.mono (by decide)) hG (by rfl) (a_own 0 (a_cons q_int a_nil)) [0])).p) sc_deed.nd)
      (ss_one (s_ret (q_tup (a_cons (p_nm 1).val (a_cons (p_nm 4).val (a_cons (q_callC C_take tk (hr.mono (by decide)) hG (by rfl) (a_own 0 (a_cons q_int a_nil)) [0]) (a_cons (q_add (q_int).p ((q_callC C_take tk (hr.mono (by decide)) hG (by rfl) (a_own 0 (a_cons (p_nm 6).val a_nil)) [0])).p) a_nil)))))))) ss_nil)
      (ss_one (s_ret (q_tup (a_cons (p_nm 1).val (a_cons (p_nm 5).val a_nil))))))))))))), fun args Q E hl h => ?_⟩
  clear hl hr hG tk hp W EX H s outer A cdv f Df B C_number C_mark C_take C_marks
  obtain ⟨t, rfl, hb, h⟩ := h
  walk_at "nf"
  refine ⟨_, _, rfl, hb, by decide, by decide, fun v t1 v0 v1 hb1 => ?_⟩
  refine at_all (C := fun d => ∃ x : Str, d = .str x ∧ x ∈ (["draw", "give", "regive", "leave", "dress", "crack", "haul", "lay", "lift"] : List Str)) v0 v1 ?_ ?_
  · intro d hd
    simp at hd
    rcases hd with rfl | rfl | rfl | rfl | rfl | rfl | rfl | rfl | rfl | rfl <;> exact ⟨_, rfl, by simp⟩
  rintro _ ⟨x, rfl, hx⟩
  walk_at "nf"
  refine ⟨.inl rfl, fun z => ?_, fun z => ?_⟩
  · have ex := str_eq z
    subst ex
    walk_at "nf"
    refine ⟨_, _, rfl, hb1, by decide, by decide, fun v2 t2 v20 v21 hb2 => ?_⟩
    refine at_all (C := fun d => ∃ n : Int, d = .int n ∧ 3 ≤ n ∧ n ≤ 24) v20 v21 ?_ ?_
    · intro d hd
      simp at hd
      rcases hd with rfl | rfl <;> exact ⟨_, rfl, by omega, by omega⟩
    rintro _ ⟨n, rfl, n0, n5⟩
    walk_at "nf"
    refine ⟨_, _, rfl, hb2, by omega, by omega, fun v3 t3 v30 v31 hb3 => ?_⟩
    walk_at "nf"
    refine ⟨szI (by omega), by omega, ?_⟩
    refine .fr [0, 3] (fun j acc vs => ∃ t' ps a, acc = ps.map prD ∧ vs = [some t', a] ∧ IsBag t' ∧ ps.length = j ∧ ∀ p, p ∈ ps → noOk p.1 ∧ mkOk p.2) ⟨[_, _], rfl, _, [], _, rfl, rfl, hb3, rfl, by simp⟩ ?_ ?_
    · rintro j d acc vs hd ⟨t', ps, a, rfl, rfl, hb', hl, hp⟩
      obtain ⟨hj, rfl⟩ := rngD_get hd
      refine ⟨fun _ => ?_, fun z => nomatch z⟩
      refine ⟨_, rfl, hb', fun ns t5 hns hb5 => ?_⟩
      walk_at "nf"
      refine ⟨_, rfl, hb5, fun m t6 hm hb6 => ?_⟩
      refine ⟨[_, _], rfl, t6, ps ++ [(ns, m)], _, by rw [List.map_append]; rfl, rfl, hb6, by simp [hl], fun p q => by
        rcases List.mem_append.mp q with q | q
        · exact hp p q
        · simp at q; subst q; exact ⟨hns, hm⟩⟩
    · rintro acc vs ⟨t', ps, a, rfl, rfl, hb', hl, hp⟩
      rw [rngD_len] at hl
      walk_at "nf"
      refine h (.pairs ps) _ ⟨?_, ?_, hp⟩ hb'
      · intro e
        subst e
        simp at hl
        omega
      · omega
  have n1 := str_ne z
  walk_at "nf"
  refine ⟨.inl rfl, fun z => ?_, fun z => ?_⟩
  · have ex := str_eq z
    subst ex
    walk_at "nf"
    refine ⟨_, rfl, hb1, fun ms t2 h1 h2 h3 h4 hb2 => ?_⟩
    exact h (.marks ms) _ ⟨h1, h2, h3, h4⟩ hb2
  have n2 := str_ne z
  walk_at "nf"
  refine ⟨_, rfl, hb1, fun ns t2 hns hb2 => ?_⟩
  walk_at "nf"
  refine ⟨_, rfl, hb2, fun m t3 hm hb3 => ?_⟩
  walk_at "nf"
  refine ⟨.inl rfl, fun z => ?_, fun z => ?_⟩
  · have ex := str_eq z
    subst ex
    exact h (.num ns) _ hns hb3
  have n3 := str_ne z
  walk_at "nf"
  refine ⟨.inl rfl, fun z => ?_, fun z => ?_⟩
  · have ex := str_eq z
    subst ex
    exact h (.give ns m) _ ⟨hns, hm⟩ hb3
  have n4 := str_ne z
  walk_at "nf"
  refine ⟨.inl rfl, fun z => ?_, fun z => ?_⟩
  · have ex := str_eq z
    subst ex
    walk_at "nf"
    refine ⟨_, _, rfl, hb3, by decide, by decide, fun v4 t4 v40 v41 hb4 => ?_⟩
    refine at_all (C := fun d => ∃ n : Int, d = .int n ∧ 20 ≤ n ∧ n ≤ 1000000) v40 v41 ?_ ?_
    · intro d hd
      simp at hd
      rcases hd with rfl | rfl <;> exact ⟨_, rfl, by omega, by omega⟩
    rintro _ ⟨n, rfl, n0, n5⟩
    walk_at "nf"
    refine ⟨_, _, rfl, hb4, by decide, by decide, fun v5 t5 v50 v51 hb5 => ?_⟩
    walk_at "nf"
    refine ⟨_, _, rfl, hb5, by omega, by omega, fun v6 t6 v60 v61 hb6 => ?_⟩
    exact h (.crack ns v5 (1 + v6)) _ ⟨hns, ⟨by omega, by omega⟩, by omega, by omega⟩ hb6
  have n5 := str_ne z
  walk_at "nf"
  refine h (.mark x m) _ ⟨?_, hm⟩ hb3
  simp only [List.mem_cons, List.not_mem_nil, or_false] at hx
  simp only [mkWs, List.mem_cons, List.not_mem_nil, or_false]
  rcases hx with e | e | e | e | e | e | e | e | e
  · exact absurd e n3
  · exact absurd e n4
  · exact absurd e n1
  · exact .inl e
  · exact .inr (.inl e)
  · exact absurd e n5
  · exact absurd e n2
  · exact .inr (.inr (.inl e))
  · exact .inr (.inr (.inr e))
theorem ok_dotted (Df : DefAt K mg "_law_dotted" s_dotted ["_law_number_here"]) (B : Bt mg) : Callee P w K mg base 1 "_law_dotted" ["_law_number_here"] [] showNS := by
  refine callee_of Df sc_dotted (by decide) (by decide) fun f cdv A outer s H EX W hr hG tk hp => ?_
  refine ⟨_, (ss_one (s_ret (q_join q_str ((q_lc (own := [("_law_part", 1)]) rfl sc_dotted.nd (i_tup (p_nm 0).val) (blkOk_by (by rfl)) (fun _ _ _ _ _ => (g_name 1 sc_dotted.nd)) (fun _ _ _ _ _ => ts_nil) (fun _ _ _ _ _ => (q_ty1 call_str_int g_strI (by rfl) B.str bt_str (p_nm 1))))).p))), fun args Q E hl h => ?_⟩
  clear hl hr hG tk hp W EX H s outer A cdv f Df B
  obtain ⟨ns, rfl, ho, h⟩ := h
  walk_at "nf"
  refine .each ns D.int rfl (fun i => D.str (iS i)) (fun j a hj => ⟨fun _ => ⟨a, rfl, iS_log (by have := ho.pos.2 a (List.mem_of_getElem? hj); omega), all_one hj, rfl⟩, fun z => nomatch z⟩) ?_
  refine ⟨ns.map iS, by rw [List.map_map]; rfl, ?_, h⟩
  have h1 := sum_lens (k := 7) (ys := ns.map iS) fun x hx => by
    obtain ⟨i, hi, rfl⟩ := List.mem_map.mp hx
    have := ho.pos.2 i hi
    exact iS_len (by decide) this.1 (by omega)
  have h2 := ho.len
  rw [List.length_map] at h1 ⊢
  have h3 : Str.length "." = 1 := rfl
  rw [h3]
  omega
theorem ok_stroked (Df : DefAt K mg "_law_stroked" s_stroked ["_law_mark_here"]) (B : Bt mg) : Callee P w K mg base 1 "_law_stroked" ["_law_mark_here"] [] showMS := by
  refine callee_of Df sc_stroked (by decide) (by decide) fun f cdv A outer s H EX W hr hG tk hp => ?_
  refine ⟨_, (ss_one (s_ret (q_add ((q_add ((q_ty1 call_str_int g_strI (by rfl) B.str bt_str ((q_ix (p_nm 0) (q_int).p)).p)).p (q_str).p)).p ((q_ty1 call_str_int g_strI (by rfl) B.str bt_str ((q_ix (p_nm 0) (q_int).p)).p)).p))), fun args Q E hl h => ?_⟩
  clear hl hr hG tk hp W EX H s outer A cdv f Df B
  obtain ⟨m, rfl, ho, h⟩ := h
  walk_at "nf"
  obtain ⟨h1, h2⟩ := ho
  have l1 := iS_len (i := m.1) (k := 7) (by decide) (by omega) (by omega)
  have l2 := iS_len (i := m.2) (k := 7) (by decide) (by omega) (by omega)
  have l3 : Str.length "/" = 1 := rfl
  refine ⟨_, at_int (Int.le_refl 0) rfl, _, rfl, iS_log (by omega), ?_⟩
  refine ⟨szN (by rw [l3]; show (iS m.1).length + 1 ≤ _; omega), _, at_int (by decide) rfl, _, rfl, iS_log (by omega), ?_⟩
  refine ⟨szN ?_, ?_⟩
  · have e : (iS m.1 ++ ("/" : Str)).length = (iS m.1).length + 1 := by rw [TL.len_tl, TL.tl_append, List.length_append, ← TL.len_tl]; rfl
    show (iS m.1 ++ ("/" : Str)).length + (iS m.2).length ≤ _
    rw [e]; omega
  · have e : iS m.1 ++ ("/" : Str) ++ iS m.2 = strk m := strk_eq
    rw [← e] at h
    exact h
theorem ok_deed_text (Df : DefAt K mg "_law_deed_text" s_deed_text ["_law_deed_here"]) (B : Bt mg) (C_dotted : Callee P w K mg base 1 "_law_dotted" ["_law_number_here"] [] showNS) (C_stroked : Callee P w K mg base 1 "_law_stroked" ["_law_mark_here"] [] showMS) : Callee P w K mg base 2 "_law_deed_text" ["_law_deed_here"] [] showDS := by
  refine callee_of Df sc_deed_text (by decide) (by decide) fun f cdv A outer s H EX W hr hG tk hp => ?_
  refine ⟨_, (ss_cons (s_set 1 (q_lst (a_cons (q_ix (p_nm 0) (q_int).p) a_nil)) sc_deed_text.nd)
      (ss_cons (s_if (t_eq (hu65 hr) ((q_ix (p_nm 0) (q_int).p)).p (q_str).p) (ss_one (s_for hp rfl (i_list (q_ix (p_nm 0) (q_int).p)) (g_tup (n := 2) rfl (gs_cons (g_name 2 sc_deed_text.nd) (gs_cons (g_name 3 sc_deed_text.nd) gs_nil))) (ss_one (s_set 1 (q_add (p_nm 1) ((q_lst (a_cons (q_callC C_dotted tk (hr.mono (by decide)) hG (by rfl) (a_cons (p_nm 2).val a_nil) []) (a_cons (q_callC C_stroked tk (hr.mono (by decide)) hG (by rfl) (a_cons (p_nm 3).val a_nil) []) a_nil)))).p) sc_deed_text.nd)))) (ss_one (s_if (t_eq (hu65 hr) ((q_ix (p_nm 0) (q_int).p)).p (q_str).p) (ss_one (s_set 1 (q_add (p_nm 1) ((q_lc (own := [("_law_mark_here", 3)]) rfl sc_deed_text.nd (i_list (q_ix (p_nm 0) (q_int).p)) (blkOk_by (by rfl)) (fun _ _ _ _ _ => (g_name 3 sc_deed_text.nd)) (fun _ _ _ _ _ => ts_nil) (fun _ _ _ _ _ => (q_callC C_stroked takes0 (hr.mono (by decide)) hG (by rfl) (a_cons (p_nm 3).val a_nil) [])))).p) sc_deed_text.nd)) (ss_one (s_if (t_in (hu65 hr) ((q_ix (p_nm 0) (q_int).p)).p ((q_tup (a_cons q_str (a_cons q_str (a_cons q_str a_nil))))).p) (ss_cons (s_expr (q_append 1 (a_cons (q_callC C_dotted tk (hr.mono (by decide)) hG (by rfl) (a_cons (q_ix (p_nm 0) (q_int).p) a_nil) []) a_nil)))
      (ss_cons (s_if (t_eq (hu65 hr) ((q_ix (p_nm 0) (q_int).p)).p (q_str).p) (ss_one (s_expr (q_append 1 (a_cons (q_callC C_stroked tk (hr.mono (by decide)) hG (by rfl) (a_cons (q_ix (p_nm 0) (q_int).p) a_nil) []) a_nil)))) ss_nil)
      (ss_one (s_if (t_eq (hu65 hr) ((q_ix (p_nm 0) (q_int).p)).p (q_str).p) (ss_one (s_set 1 (q_add (p_nm 1) ((q_lst (a_cons (q_ty1 call_str_int g_strI (by rfl) B.str bt_str ((q_ix (p_nm 0) (q_int).p)).p) (a_cons (q_ty1 call_str_int g_strI (by rfl) B.str bt_str ((q_ix (p_nm 0) (q_int).p)).p) a_nil)))).p) sc_deed_text.nd)) ss_nil)))) (ss_one (s_expr (q_append 1 (a_cons (q_callC C_stroked tk (hr.mono (by decide)) hG (by rfl) (a_cons (q_ix (p_nm 0) (q_int).p) a_nil) []) a_nil)))))))))
      (ss_one (s_ret (q_join q_str (p_nm 1)))))), fun args Q E hl h => ?_⟩
  clear hl hr hG tk hp W EX H s outer A cdv f Df B C_dotted C_stroked
  obtain ⟨x, rfl, ho, h⟩ := h
  walk_at "nf"
  match x, ho, h with
  | .num ns, ho, h =>
    refine ⟨_, at_int (Int.le_refl 0) rfl, ?_⟩
    walk_at "nf"
    refine ⟨_, at_int (Int.le_refl 0) rfl, ?_⟩
    walk_at "ns"
    walk_at "nf"
    refine ⟨_, at_int (Int.le_refl 0) rfl, ?_⟩
    walk_at "ns"
    walk_at "nf"
    refine ⟨_, at_int (Int.le_refl 0) rfl, rfl, fun _ => ?_, fun z => absurd z (by decide +kernel)⟩
    walk_at "nf"
    refine ⟨rfl, _, at_int (by decide) rfl, ns, rfl, ho, szL (show (1 : Nat) < _ by decide), ?_⟩
    walk_at "nf"
    refine ⟨_, at_int (Int.le_refl 0) rfl, ?_⟩
    walk_at "ns"
    walk_at "nf"
    refine ⟨_, at_int (Int.le_refl 0) rfl, ?_⟩
    walk_at "ns"
    walk_at "nf"
    exact join_dd (Q' := fun t => Q t []) ho h
  | .give ns m, ho, h =>
    refine ⟨_, at_int (Int.le_refl 0) rfl, ?_⟩
    walk_at "nf"
    refine ⟨_, at_int (Int.le_refl 0) rfl, ?_⟩
    walk_at "ns"
    walk_at "nf"
    refine ⟨_, at_int (Int.le_refl 0) rfl, ?_⟩
    walk_at "ns"
    walk_at "nf"
    refine ⟨_, at_int (Int.le_refl 0) rfl, rfl, fun _ => ?_, fun z => absurd z (by decide +kernel)⟩
    walk_at "nf"
    refine ⟨rfl, _, at_int (by decide) rfl, ns, rfl, ho.1, szL (show (1 : Nat) < _ by decide), ?_⟩
    walk_at "nf"
    refine ⟨_, at_int (Int.le_refl 0) rfl, ?_⟩
    walk_at "yes"
    walk_at "nf"
    refine ⟨rfl, _, at_int (by decide) rfl, m, rfl, ho.2, szL (show (2 : Nat) < _ by decide), ?_⟩
    walk_at "nf"
    refine ⟨_, at_int (Int.le_refl 0) rfl, ?_⟩
    walk_at "ns"
    walk_at "nf"
    exact join_dd (Q' := fun t => Q t []) ho h
  | .crack ns a s, ho, h =>
    have hk := ho
    obtain ⟨h1, h2, h3⟩ := ho
    refine ⟨_, at_int (Int.le_refl 0) rfl, ?_⟩
    walk_at "nf"
    refine ⟨_, at_int (Int.le_refl 0) rfl, ?_⟩
    walk_at "ns"
    walk_at "nf"
    refine ⟨_, at_int (Int.le_refl 0) rfl, ?_⟩
    walk_at "ns"
    walk_at "nf"
    refine ⟨_, at_int (Int.le_refl 0) rfl, rfl, fun _ => ?_, fun z => absurd z (by decide +kernel)⟩
    walk_at "nf"
    refine ⟨rfl, _, at_int (by decide) rfl, ns, rfl, h1, szL (show (1 : Nat) < _ by decide), ?_⟩
    walk_at "nf"
    refine ⟨_, at_int (Int.le_refl 0) rfl, ?_⟩
    walk_at "ns"
    walk_at "nf"
    refine ⟨_, at_int (Int.le_refl 0) rfl, ?_⟩
    walk_at "yes"
    walk_at "nf"
    refine ⟨_, at_int (by decide) rfl, a, rfl, iS_log (by omega), _, at_int (by decide) rfl, s, rfl, iS_log (by omega), szN (show (4 : Nat) ≤ _ by decide), ?_⟩
    walk_at "nf"
    exact join_dd (Q' := fun t => Q t []) hk h
  | .mark w m, ho, h =>
    have hk := ho
    obtain ⟨hw, hm⟩ := ho
    have ne : ∀ y, y ∈ (["regive", "haul", "draw", "give", "crack"] : List Str) → eqD (.str w) (.str y) = false := fun y hy => by
      have : ¬ w = y := fun e => by subst e; exact absurd hw (wd_no hy)
      simpa [eqD] using this
    have ne2 : ∀ y, y ∈ (["regive", "haul", "draw", "give", "crack"] : List Str) → eqD (.str y) (.str w) = false := fun y hy => by
      have : ¬ y = w := fun e => by subst e; exact absurd hw (wd_no hy)
      simpa [eqD] using this
    refine ⟨_, at_int (Int.le_refl 0) rfl, ?_⟩
    walk_at "nf"
    refine ⟨_, at_int (Int.le_refl 0) rfl, ?_⟩
    refine ⟨.inl rfl, fun z => absurd ((ne "regive" (by simp)).symm.trans z) (by decide), fun _ => ?_⟩
    walk_at "nf"
    refine ⟨_, at_int (Int.le_refl 0) rfl, ?_⟩
    refine ⟨.inl rfl, fun z => absurd ((ne "haul" (by simp)).symm.trans z) (by decide), fun _ => ?_⟩
    walk_at "nf"
    refine ⟨_, at_int (Int.le_refl 0) rfl, rfl, fun z => ?_, fun _ => ?_⟩
    · have z2 : ([D.str "draw", D.str "give", D.str "crack"].any fun z => eqD z (.str w)) = true := z
      simp only [List.any_cons, List.any_nil, ne2 "draw" (by simp), ne2 "give" (by simp), ne2 "crack" (by simp)] at z2
      cases z2
    walk_at "nf"
    refine ⟨rfl, _, at_int (by decide) rfl, m, rfl, hm, szL (show (1 : Nat) < _ by decide), ?_⟩
    walk_at "nf"
    exact join_dd (Q' := fun t => Q t []) hk h
  | .pairs ps, ho, h =>
    refine ⟨_, at_int (Int.le_refl 0) rfl, ?_⟩
    walk_at "nf"
    refine ⟨_, at_int (Int.le_refl 0) rfl, ?_⟩
    walk_at "yes"
    walk_at "nf"
    refine ⟨_, at_int (by decide) rfl, ?_⟩
    refine .over ps prD rfl [1, 2, 3] (fun j vs => ∃ a b, vs = [some (.ow .lst ((("regive" : Str) :: (ps.take j).flatMap fun p => [dotS p.1, strk p.2]).map .str)), a, b]) ⟨[_, _, _], rfl, _, _, rfl⟩ ?_ ?_
    · rintro j p vs hj ⟨a, b, rfl⟩
      have hp := ho.2.2 p (List.mem_of_getElem? hj)
      refine ⟨rfl, ?_⟩
      walk_at "nf"
      refine ⟨p.1, rfl, hp.1, p.2, rfl, hp.2, ?_, ?_⟩
      · have h1 := dd_flat (ps := ps.take j)
        have h2 : (ps.take j).length ≤ 24 := by rw [List.length_take]; have := ho.2.1; omega
        rw [List.length_map, List.length_cons, h1]
        exact szN (by show 2 * (ps.take j).length + 1 + 2 ≤ _; omega)
      · have e : ((("regive" : Str) :: (ps.take j).flatMap fun p => [dotS p.1, strk p.2]).map D.str) ++ [.str (dotS p.1), .str (strk p.2)] = ((("regive" : Str) :: (ps.take (j + 1)).flatMap fun p => [dotS p.1, strk p.2]).map D.str) := by
          rw [List.take_add_one, hj, List.flatMap_append]
          simp
        exact ⟨[_, _, _], rfl, _, _, by rw [← e]⟩
    · rintro vs ⟨a, b, rfl⟩
      rw [List.take_length] 
      walk_at "nf"
      exact join_dd (Q' := fun t => Q t []) ho h
  | .marks ms, ho, h =>
    refine ⟨_, at_int (Int.le_refl 0) rfl, ?_⟩
    walk_at "nf"
    refine ⟨_, at_int (Int.le_refl 0) rfl, ?_⟩
    walk_at "ns"
    walk_at "nf"
    refine ⟨_, at_int (Int.le_refl 0) rfl, ?_⟩
    walk_at "yes"
    walk_at "nf"
    refine ⟨_, at_int (by decide) rfl, ?_⟩
    refine .each ms mkD rfl (fun m => .str (strk m)) (fun j a hj => ⟨fun _ => ⟨a, rfl, ho.2.2.1 a (List.mem_of_getElem? hj), all_one hj, rfl⟩, fun z => nomatch z⟩) ?_
    refine ⟨szN ?_, ?_⟩
    · rw [List.length_map]
      have := ho.2.1
      show 1 + ms.length ≤ _
      omega
    walk_at "nf"
    have e : ms.map (fun m => D.str (strk m)) = (ms.map strk).map D.str := by rw [List.map_map]; rfl
    rw [e]
    exact join_dd (Q' := fun t => Q t []) ho h

theorem ok_lwhole_in (Df : DefAt K mg "_law_whole_in" s_lwhole_in ["_law_word", "_law_least", "_law_most"]) (B : Bt mg) : Callee P w K mg base 1 "_law_whole_in" ["_law_word", "_law_least", "_law_most"] [] lwS := by
  refine callee_of Df sc_lwhole_in (by decide) (by decide) fun f cdv A outer s H EX W hr hG tk hp => ?_
  refine ⟨_, (ss_cons (s_if ((w_or (t_eq (hu65 hr) (p_nm 0) (q_str).p) (w_or (t_gt ((q_b1 c_len g_len (by rfl) B.len bt_len (p_nm 0))).p (q_int).p) (w_or1 ((w_and (t_eq (hu65 hr) ((q_ix (p_nm 0) (q_int).p)).p (q_str).p) (w_and1 (t_ne (hu65 hr) (p_nm 0) (q_str).p)))).t)))).t (ss_one (s_ret q_non)) ss_nil).cut
      (ss_cons (s_if (t_not (t_val (q_b1 (cr_all rfl) g_all (by rfl) B.all bt_all ((q_lc (own := [("_law_sign_here", 3)]) rfl sc_lwhole_in.nd (i_str (p_nm 0).val) (blkOk_by (by rfl)) (fun _ _ _ _ _ => (g_name 3 sc_lwhole_in.nd)) (fun _ _ _ _ _ => ts_nil) (fun _ _ _ _ _ => (q_in (hu65 hr) (p_nm 3) (q_str).p)))).p))) (ss_one (s_ret q_non)) ss_nil)
      (ss_cons (s_if (t_chain op_le op_le (p_nm 1) ((q_intS (by rfl) B.int (p_nm 0))).p (p_nm 2)) (ss_one (s_ret (q_intS (by rfl) B.int (p_nm 0)))) ss_nil)
      (ss_one (s_ret q_non))))), fun args Q E hl h => ?_⟩
  clear hl hr hG tk hp W EX H s outer A cdv f Df B
  obtain ⟨x, lo, hi, rfl, hz, h0, h1, h⟩ := h
  walk_at "nf"
  have hz2 : x.length ≤ sizeLine := szN (Nat.le_trans hz (by decide))
  have bad : (TL.tl x = [] ∨ 22 < x.length ∨ ((TL.tl x).head? = some 48 ∧ 1 < x.length) ∨ digL (TL.tl x) = false) → Q (.fz .non) [] := fun q => by
    rw [wh_none q] at h
    exact h
  refine .mk ⟨fun e => e = [some (.fz (.str x)), some (.fz (.int lo)), some (.fz (.int hi)), none] ∧ TL.tl x ≠ [] ∧ x.length ≤ 30 ∧ ¬ ((TL.tl x).head? = some 48 ∧ 1 < x.length), ?_, ?_⟩
  · refine ⟨.inl rfl, fun z => ⟨fun _ => bad (.inl ?_), fun z => nomatch z⟩, fun z => ⟨hz2, fun z2 => ⟨fun _ => bad (.inr (.inl ?_)), fun z => nomatch z⟩, fun z2 => ?_⟩⟩
    · rw [str_eq z]; rfl
    · have := of_decide_eq_true z2; omega
    have n1 : TL.tl x ≠ [] := fun e => str_ne z (TL.ext_tl e)
    have n2 : x.length ≤ 30 := by have := of_decide_eq_false z2; omega
    obtain ⟨c, r, e⟩ : ∃ c r, TL.tl x = c :: r := by
      cases q : TL.tl x with
      | nil => exact absurd q n1
      | cons c r => exact ⟨c, r, rfl⟩
    refine ⟨hz2, c, by show atI (TL.tl x) 0 = some c; rw [e]; exact at_int (Int.le_refl 0) rfl, .inl rfl, fun z3 => ?_, fun z3 => ?_⟩
    · have hc := ch_eq z3
      refine ⟨.inl rfl, fun z4 => bad (.inr (.inr (.inl ⟨by rw [e, hc]; rfl, ?_⟩))), fun z4 => ⟨rfl, n1, n2, ?_⟩⟩
      · have ne : ¬ x = "0" := fun q => by
          subst q
          have z5 : (!eqD (.str "0") (.str "0")) = true := z4
          simp [eqD] at z5
        rw [TL.len_tl, e, List.length_cons]
        have : r ≠ [] := fun q => ne (TL.ext_tl (by rw [e, q, hc]; rfl))
        have := List.length_pos_iff.mpr this
        omega
      · rintro ⟨q, q2⟩
        have z5 : (!eqD (.str x) (.str "0")) = false := z4
        have : x = "0" := by
          have : eqD (.str x) (.str "0") = true := by simpa using z5
          exact str_eq this
        subst this
        exact absurd q2 (by decide +kernel)
    · refine ⟨fun z => (nomatch z), fun _ => ⟨rfl, n1, n2, ?_⟩⟩
      rintro ⟨q, q2⟩
      rw [e] at q
      have : c = 48 := by simpa using q
      subst this
      exact ch_ne (c := 48) z3 rfl
  rintro e ⟨rfl, n1, n2, n3⟩
  walk_at "nf"
  refine ⟨hz2, ?_⟩
  refine .each (TL.tl x) (fun c => .str ⟨#[c]⟩) rfl (fun c => .bl (decide (c ∈ TL.tl "0123456789"))) (fun j c hj => ⟨fun _ => ⟨c, rfl, all_one hj, rfl⟩, fun z => nomatch z⟩) ⟨(TL.tl x).map fun c => decide (c ∈ TL.tl "0123456789"), by rw [List.map_map]; rfl, ?_⟩
  have ed : ((TL.tl x).map fun c => decide (c ∈ TL.tl "0123456789")).all id = digL (TL.tl x) := by
    rw [List.all_map]
    unfold digL
    congr 1
    funext c
    show decide (c ∈ TL.tl "0123456789") = _
    cases q : (decide (48 ≤ c) && decide (c ≤ 57))
    · exact decide_eq_false fun z => by rw [mem_fig z] at q; cases q
    · exact decide_eq_true (fig_mem q)
  rw [ed]
  refine ⟨fun z => bad (.inr (.inr (.inr (by simpa using z)))), fun z => ?_⟩
  have n4 : digL (TL.tl x) = true := by simpa using z
  rw [lw_eq h0 h1 n1 n3 n4] at h
  have hi2 := HandSX_int n4 n1 (by omega)
  walk_at "nf"
  refine ⟨x, _, rfl, hi2, by omega, decide (((NumText.digitsVal (TL.tl x) : Nat) : Int) ≤ hi), fun _ => ⟨rfl, rfl⟩, fun z => ?_, fun z => ?_⟩
  · rw [Bool.and_eq_true, decide_eq_true_eq, decide_eq_true_eq] at z
    rw [if_pos z] at h
    exact ⟨x, _, rfl, hi2, by omega, h⟩
  · have z : (decide (lo ≤ ((NumText.digitsVal (TL.tl x) : Nat) : Int)) && decide (((NumText.digitsVal (TL.tl x) : Nat) : Int) ≤ hi)) = false := z
    rw [if_neg (fun q => by rw [decide_eq_true q.1, decide_eq_true q.2] at z; cases z)] at h
    exact h
theorem ok_lnumber_in (Df : DefAt K mg "_law_number_in" s_lnumber_in ["_law_word"]) (B : Bt mg) (C_lwhole_in : Callee P w K mg base 1 "_law_whole_in" ["_law_word", "_law_least", "_law_most"] [] lwS) : Callee P w K mg base 2 "_law_number_in" ["_law_word"] [] numInS := by
  refine callee_of Df sc_lnumber_in (by decide) (by decide) fun f cdv A outer s H EX W hr hG tk hp => ?_
  refine ⟨_, (ss_cons (s_set 1 ((q_split (p_nm 0).val (q_str).p)).fz sc_lnumber_in.nd)
      (ss_cons (s_setLcF 2 (own := [("_law_k", 3), ("_law_part", 4)]) rfl sc_lnumber_in.nd (i_enum (by rfl) B.enumerate (p_nm 1).val) (blkOk_by (by rfl)) (fun _ _ _ _ _ => (g_tup (n := 2) rfl (gs_cons (g_name 3 sc_lnumber_in.nd) (gs_cons (g_name 4 sc_lnumber_in.nd) gs_nil)))) (fun _ _ _ _ _ => ts_nil) (fun _ _ _ _ _ => (q_callC C_lwhole_in takes0 (hr.mono (by decide)) hG (by rfl) (a_cons (p_nm 4).val (a_cons q_int (a_cons (q_ix ((q_lst (a_cons q_int (a_cons q_int a_nil)))).p ((q_ty1 call_int1 g_int1 (by rfl) B.int bt_int ((q_eq (hu65 hr) (p_nm 3) (q_int).p)).p)).p) a_nil))) [])))
      (ss_cons (s_if ((w_orM (t_gt ((q_b1 c_len g_len (by rfl) B.len bt_len (p_nm 1))).p (q_int).p) (w_or1 (t_in (hu65 hr) (q_non).p (p_nm 2))))).t (ss_one (s_ret q_non)) ss_nil)
      (ss_one (s_ret (q_ty1 call_tuple_of g_tuple (by rfl) B.tuple bt_tuple (p_nm 2))))))), fun args Q E hl h => ?_⟩
  clear hl hr hG tk hp W EX H s outer A cdv f Df B C_lwhole_in
  obtain ⟨x, rfl, hz, h⟩ := h
  walk_at "nf"
  refine ⟨_, rfl, by decide, szT hz, ?_⟩
  walk_at "nf"
  rw [nu_law] at h
  have hp : ∀ p, p ∈ Txt.split x "." → shT p := fun p hp => Nat.le_trans (split_part hp) hz
  have hl : (Txt.split x ".").length ≤ 1000002 := Nat.le_trans split_len (Nat.add_le_add_right hz 2)
  revert h hp hl
  generalize Txt.split x "." = ws
  intro h hp hl
  refine .each (List.range ws.length) (fun k => .nd .tup [.int (k : Nat), .str (ws.getD k "")]) enum_strs (fun k => oD ((lnL ws).getD k none)) (fun j k hj => ?_) ?_
  · have hk : k < ws.length := by simpa using List.mem_of_getElem? hj
    have hg := getD_at (ws := ws) hk
    refine ⟨rfl, fun _ => ?_, fun z => nomatch z⟩
    have ht : ∃ v, atI [D.int 4, .int 24] (if eqD (.int (k : Nat)) (.int 0) = true then 1 else 0) = some v ∧ v = .int (topK k) := by
      cases k with
      | zero => exact ⟨_, rfl, rfl⟩
      | succ k =>
        have : eqD (.int ((k + 1 : Nat) : Int)) (.int 0) = false := by simp [eqD]; omega
        rw [this]
        exact ⟨_, rfl, rfl⟩
    obtain ⟨v, ht, rfl⟩ := ht
    refine ⟨.inl rfl, _, ht, ?_⟩
    refine ⟨_, 1, topK k, rfl, hp _ (List.mem_of_getElem? hg), by decide, by unfold topK; split <;> omega, ?_⟩
    refine ⟨?_, rfl⟩
    have := all_one (f := fun k => oD ((lnL ws).getD k none)) hj
    rw [← this, lnL_get hk]
  · rw [← lnL_len ws, range_getD]
    walk_at "nf"
    refine ⟨decide (none ∈ lnL ws), fun _ => ⟨.inl (fl_oD (lnL ws)), any_non (lnL ws), rfl⟩, fun z => ?_, fun z => ?_⟩
    · have hc : 6 < ws.length ∨ none ∈ lnL ws := by
        rw [Bool.or_eq_true] at z
        rcases z with z | z
        · have := of_decide_eq_true z; rw [List.length_map] at this; exact .inl (by omega)
        · exact .inr (of_decide_eq_true z)
      rw [if_pos hc] at h
      exact h
    · have hc : ¬ (6 < ws.length ∨ none ∈ lnL ws) := by
        rw [Bool.or_eq_false_iff] at z
        have z1 := of_decide_eq_false z.1
        rw [List.length_map] at z1
        rintro (q | q)
        · exact z1 (by omega)
        · exact of_decide_eq_false z.2 q
      rw [if_neg hc] at h
      exact h
theorem ok_lmark_in (Df : DefAt K mg "_law_mark_in" s_lmark_in ["_law_word"]) (B : Bt mg) (C_lwhole_in : Callee P w K mg base 1 "_law_whole_in" ["_law_word", "_law_least", "_law_most"] [] lwS) : Callee P w K mg base 2 "_law_mark_in" ["_law_word"] [] mkInS := by
  refine callee_of Df sc_lmark_in (by decide) (by decide) fun f cdv A outer s H EX W hr hG tk hp => ?_
  refine ⟨_, (ss_cons (s_setLcF 1 (own := [("_law_part", 2)]) rfl sc_lmark_in.nd (i_list ((q_split (p_nm 0).val (q_str).p)).fz) (blkOk_by (by rfl)) (fun _ _ _ _ _ => (g_name 2 sc_lmark_in.nd)) (fun _ _ _ _ _ => ts_nil) (fun _ _ _ _ _ => (q_callC C_lwhole_in takes0 (hr.mono (by decide)) hG (by rfl) (a_cons (p_nm 2).val (a_cons q_int (a_cons q_int a_nil))) [])))
      (ss_cons (s_if ((w_orM (t_ne (hu65 hr) ((q_b1 c_len g_len (by rfl) B.len bt_len (p_nm 1))).p (q_int).p) (w_or1 (t_in (hu65 hr) (q_non).p (p_nm 1))))).t (ss_one (s_ret q_non)) ss_nil)
      (ss_one (s_ret (q_ty1 call_tuple_of g_tuple (by rfl) B.tuple bt_tuple (p_nm 1)))))), fun args Q E hl h => ?_⟩
  clear hl hr hG tk hp W EX H s outer A cdv f Df B C_lwhole_in
  obtain ⟨x, rfl, hz, h⟩ := h
  walk_at "nf"
  refine ⟨_, rfl, by decide, szT hz, ?_⟩
  rw [mk_law] at h
  have hp : ∀ p, p ∈ Txt.split x "/" → shT p := fun p hp => Nat.le_trans (split_part hp) hz
  revert h hp
  generalize Txt.split x "/" = ws
  intro h hp
  refine .each ws D.str rfl (fun p => oD (inR 1 24 (whF p))) (fun j a hj => ⟨fun _ => ⟨a, 1, 24, rfl, hp a (List.mem_of_getElem? hj), by decide, by decide, all_one hj, rfl⟩, fun z => nomatch z⟩) ?_
  walk_at "nf"
  have em : ws.map (fun p => oD (inR 1 24 (whF p))) = (ws.map fun p => inR 1 24 (whF p)).map oD := by rw [List.map_map]; rfl
  rw [em] at h ⊢
  refine ⟨.inl rfl, decide (none ∈ ws.map fun p => inR 1 24 (whF p)), fun _ => ⟨.inl (fl_oD _), any_non _, rfl⟩, fun z => ?_, fun z => ?_⟩
  · have hc : ¬ ws.length = 2 ∨ none ∈ ws.map fun p => inR 1 24 (whF p) := by
      rw [Bool.or_eq_true] at z
      rcases z with z | z
      · left
        intro e
        have z2 : (!eqD (.int ((((ws.map fun p => inR 1 24 (whF p)).map oD).length : Nat) : Int)) (.int 2)) = true := z
        rw [List.length_map, List.length_map, e] at z2
        simp [eqD] at z2
      · exact .inr (of_decide_eq_true z)
    rw [if_pos hc] at h
    exact h
  · have hc : ¬ (¬ ws.length = 2 ∨ none ∈ ws.map fun p => inR 1 24 (whF p)) := by
      rw [Bool.or_eq_false_iff] at z
      have z2 : (!eqD (.int ((((ws.map fun p => inR 1 24 (whF p)).map oD).length : Nat) : Int)) (.int 2)) = false := z.1
      rw [List.length_map, List.length_map] at z2
      rintro (q | q)
      · exact q (by simp [eqD] at z2; omega)
      · exact of_decide_eq_false z.2 q
    rw [if_neg hc] at h
    exact h
theorem ok_lists_in (Df : DefAt K mg "_law_lists_in" s_lists_in ["_law_words"]) (B : Bt mg) (C_lmark_in : Callee P w K mg base 2 "_law_mark_in" ["_law_word"] [] mkInS) (C_lnumber_in : Callee P w K mg base 2 "_law_number_in" ["_law_word"] [] numInS) : Callee P w K mg base 3 "_law_lists_in" ["_law_words"] [] llistS := by
  refine callee_of Df sc_lists_in (by decide) (by decide) fun f cdv A outer s H EX W hr hG tk hp => ?_
  refine ⟨_, (ss_cons (s_if (t_eq (hu65 hr) ((q_ix (p_nm 0) (q_int).p)).p (q_str).p) (ss_cons (s_setLcF 1 (own := [("_law_word", 2)]) rfl sc_lists_in.nd (i_list ((q_slice (p_nm 0) (o_some q_int) o_none)).fz) (blkOk_by (by rfl)) (fun _ _ _ _ _ => (g_name 2 sc_lists_in.nd)) (fun _ _ _ _ _ => ts_nil) (fun _ _ _ _ _ => (q_callC C_lmark_in takes0 (hr.mono (by decide)) hG (by rfl) (a_cons (p_nm 2).val a_nil) [])))
      (ss_cons (s_if ((w_or (t_not (t_chain op_le op_le (q_int).p ((q_b1 c_len g_len (by rfl) B.len bt_len (p_nm 1))).p (q_int).p)) (w_or (t_in (hu65 hr) (q_non).p (p_nm 1)) (w_or1 (t_ne (hu65 hr) ((q_lenSetP rfl (hu65 hr) (by rfl) B.len (by rfl) B.set (p_nm 1))).p ((q_b1 c_len g_len (by rfl) B.len bt_len (p_nm 1))).p))))).t (ss_one (s_ret q_non)) ss_nil)
      (ss_one (s_ret (q_tup (a_cons q_str (a_cons (p_nm 1).val a_nil))))))) ss_nil)
      (ss_cons (s_if ((w_or (t_eq (hu65 hr) ((q_mod ((q_b1 c_len g_len (by rfl) B.len bt_len (p_nm 0))).p (q_int).p)).p (q_int).p) (w_or1 (t_not (t_chain op_le op_le (q_int).p ((q_b1 c_len g_len (by rfl) B.len bt_len (p_nm 0))).p (q_int).p))))).t (ss_one (s_ret q_non)) ss_nil)
      (ss_cons (s_set 3 (q_lst a_nil) sc_lists_in.nd)
      (ss_cons (s_for hp rfl (i_tw (by rfl) B.range q_int (q_b1 c_len g_len (by rfl) B.len bt_len (p_nm 0)) q_int) (g_name 4 sc_lists_in.nd) (ss_one (s_expr (q_append 3 (a_cons (q_tup (a_cons (q_callC C_lnumber_in tk (hr.mono (by decide)) hG (by rfl) (a_cons (q_ix (p_nm 0) (p_nm 4)) a_nil) []) (a_cons (q_callC C_lmark_in tk (hr.mono (by decide)) hG (by rfl) (a_cons (q_ix (p_nm 0) ((q_add (p_nm 4) (q_int).p)).p) a_nil) []) a_nil))) a_nil)))))
      (ss_cons (s_if (t_val (q_b1 (cr_any rfl) g_any (by rfl) B.any bt_any ((q_lcO (own := [("_law_pair", 5)]) rfl sc_lists_in.nd (i_own 3) (blkOk_by (by rfl)) (fun _ _ _ _ _ => (g_name 5 sc_lists_in.nd)) (fun _ _ _ _ _ => ts_nil) (fun _ _ _ _ _ => (q_inDT (hu65 hr) (q_non).p (p_nm 5))))).p)) (ss_one (s_ret q_non)) ss_nil)
      (ss_one (s_ret (q_tup (a_cons q_str (a_cons (q_fzn 3) a_nil)))))))))), fun args Q E hl h => ?_⟩
  clear hl hr hG tk hp W EX H s outer A cdv f Df B C_lmark_in C_lnumber_in
  obtain ⟨w, r, rfl, hw, hl, hz, h⟩ := h
  have a0 : atI (List.map D.str (w :: r)) 0 = some (.str w) := at_int (Int.le_refl 0) rfl
  walk_at "nf"
  have lw : ((w :: r).map D.str).length = r.length + 1 := by rw [List.length_map, List.length_cons]
  refine ⟨_, a0, ?_⟩
  rcases hw with rfl | rfl
  · refine ⟨.inl rfl, fun _ => ?_, fun z => absurd z (by decide +kernel)⟩
    rw [due_haul] at h
    have no : mksB (.nd .lst (r.map mkF)) = false → Q (.fz .non) [] := fun e => by rw [e] at h; exact h
    refine .each r D.str cut1 mkF (fun j a hj => ⟨fun _ => ⟨a, rfl, hz a (List.mem_cons_of_mem _ (List.mem_of_getElem? hj)), all_one hj, rfl⟩, fun z => nomatch z⟩) ?_
    refine ⟨decide ((r.map mkF).length ≤ (2 : Int)), fun _ => ⟨rfl, rfl⟩, fun z => ⟨fun _ => no (mks_len ?_), fun z => nomatch z⟩, fun z => ?_⟩
    · replace z : (!(decide ((1 : Int) ≤ (r.map mkF).length) && decide (((r.map mkF).length : Int) ≤ 2))) = true := z
      rw [List.length_map] at z
      rintro ⟨q1, q2⟩
      rw [decide_eq_true (by omega), decide_eq_true (by omega)] at z
      cases z
    · replace z : (!(decide ((1 : Int) ≤ (r.map mkF).length) && decide (((r.map mkF).length : Int) ≤ 2))) = false := z
      have q : 1 ≤ r.length ∧ r.length ≤ 2 := by
        rw [List.length_map] at z
        simp at z
        omega
      refine ⟨.inr ⟨rfl, mk_pl⟩, fun z2 => ⟨fun _ => no (mks_bad ?_), fun z => nomatch z⟩, fun z2 => ?_⟩
      · rw [← mk_any]; exact z2
      · have z3 : (r.any fun x => nonD (mkF x)) = false := by rw [← mk_any]; exact z2
        obtain ⟨ms, em, hm, lm⟩ := mk_all z3
        rw [em] at h ⊢
        rw [mks_ms hm] at h
        refine ⟨ms, rfl, by omega, fun qs nd hq => ?_⟩
        have nl := nodup_len (by omega) nd hq
        refine ⟨.inl rfl, fun z => ?_, fun z => ?_⟩
        · replace z : (!decide ((qs.length : Int) = ((ms.map mkD).length : Nat))) = true := z
          rw [List.length_map] at z
          have z4 : ¬ qs.length = ms.length := by simp at z; omega
          rw [decide_eq_false (fun q => z4 (nl.mpr q.2))] at h
          exact h
        · replace z : (!decide ((qs.length : Int) = ((ms.map mkD).length : Nat))) = false := z
          rw [List.length_map] at z
          have z4 : qs.length = ms.length := by simp at z; omega
          rw [decide_eq_true ⟨by omega, nl.mp z4⟩] at h
          exact h
  · refine ⟨.inl rfl, fun z => absurd z (by decide +kernel), fun _ => ?_⟩
    rw [due_regive] at h
    refine ⟨show (0 : Int) < 2 by decide, .inl rfl, ?_⟩
    refine ⟨fun z => ⟨fun _ => ?_, fun z2 => nomatch z2⟩, fun z => ?_⟩
    · replace z : decide (((((("regive" : Str) :: r).map D.str).length : Nat) : Int) % 2 = 0) = true := z
      rw [lw, decide_eq_true_eq] at z
      rw [if_neg (fun q => by omega)] at h
      exact h
    · replace z : decide (((((("regive" : Str) :: r).map D.str).length : Nat) : Int) % 2 = 0) = false := z
      rw [lw, decide_eq_false_iff_not] at z
      have hp : r.length % 2 = 0 := by omega
      refine ⟨decide (((("regive" : Str) :: r).map D.str).length ≤ (49 : Int)), fun _ => ⟨rfl, rfl⟩, fun z => ?_, fun z => ?_⟩
      · replace z : (!(decide ((3 : Int) ≤ ((("regive" : Str) :: r).map D.str).length) && decide ((((("regive" : Str) :: r).map D.str).length : Int) ≤ 49))) = true := z
        rw [lw] at z
        rw [prs_ok, if_neg] at h
        · exact h
        rintro ⟨_, q⟩
        rw [Bool.and_eq_true, Bool.and_eq_true, decide_eq_true_eq, decide_eq_true_eq] at q
        rw [decide_eq_true (by omega), decide_eq_true (by omega)] at z
        cases z
      · replace z : (!(decide ((3 : Int) ≤ ((("regive" : Str) :: r).map D.str).length) && decide ((((("regive" : Str) :: r).map D.str).length : Int) ≤ 49))) = false := z
        rw [lw] at z
        have hr : 2 ≤ r.length ∧ r.length ≤ 48 := by
          simp at z
          omega
        refine ⟨rfl, by decide, by decide, by rw [lw]; omega, by rw [lw]; omega, szI (by rw [lw]; omega), ?_⟩
        have hn : (((((("regive" : Str) :: r).map D.str).length : Int) - 1 + 1) / 2).toNat = r.length / 2 := by rw [lw]; omega
        rw [hn]
        have ag : ∀ i : Nat, i < r.length → atI ((("regive" : Str) :: r).map D.str) (1 + (i : Nat)) = some (.str (r.getD i "")) := fun i hi => by
          have : (1 + (i : Int)) = ((i + 1 : Nat) : Int) := by omega
          rw [this]
          refine at_int (by omega) ?_
          show (r.map D.str)[i]? = _
          rw [List.getElem?_map, getD_at hi]; rfl
        refine .over (List.range (r.length / 2)) (fun k => .int (1 + (k : Nat) * 2)) rfl [3, 4] (fun j vs => ∃ k, vs = [some (.ow .lst ((List.range j).map fun k => .nd .tup [nuF (r.getD (2 * k) ""), mkF (r.getD (2 * k + 1) "")])), k]) ⟨[_, _], rfl, _, rfl⟩ ?_ ?_
        · rintro j x vs hj ⟨k, rfl⟩
          obtain ⟨hj1, rfl⟩ : j < r.length / 2 ∧ x = j := by
            have := List.getElem?_eq_some_iff.mp hj
            obtain ⟨h1, h2⟩ := this
            simp at h1 h2
            exact ⟨h1, h2.symm⟩
          have a1 : atI ((("regive" : Str) :: r).map D.str) (1 + (x : Int) * 2) = some (.str (r.getD (2 * x) "")) := by
            have := ag (2 * x) (by omega)
            rwa [show (1 + ((2 * x : Nat) : Int)) = 1 + (x : Int) * 2 by omega] at this
          have a2 : atI ((("regive" : Str) :: r).map D.str) (1 + (x : Int) * 2 + 1) = some (.str (r.getD (2 * x + 1) "")) := by
            have := ag (2 * x + 1) (by omega)
            rwa [show (1 + ((2 * x + 1 : Nat) : Int)) = 1 + (x : Int) * 2 + 1 by omega] at this
          have hzg : ∀ i : Nat, i < r.length → shT (r.getD i "") := fun i hi => hz _ (List.mem_cons_of_mem _ (List.mem_of_getElem? (getD_at hi)))
          refine ⟨rfl, _, a1, _, rfl, hzg _ (by omega), _, a2, _, rfl, hzg _ (by omega), ?_⟩
          refine ⟨szL (by rw [List.length_map, List.length_range]; omega), ?_⟩
          refine ⟨[_, _], rfl, some (.fz (.int (1 + (x : Int) * 2))), ?_⟩
          rw [List.range_succ, List.map_append]; rfl
        · rintro vs ⟨k, rfl⟩
          rw [List.length_range]
          refine .each (List.range (r.length / 2)) (fun k => .nd .tup [nuF (r.getD (2 * k) ""), mkF (r.getD (2 * k + 1) "")]) rfl (fun k => .bl (nonD (nuF (r.getD (2 * k) "")) || nonD (mkF (r.getD (2 * k + 1) "")))) (fun j a hj => ⟨fun _ => ⟨⟨rfl, ?_⟩, ?_⟩, fun z => nomatch z⟩) ?_
          · simp [Dspl, nu_pl, mk_pl2]
          · refine ⟨?_, rfl⟩
            show _ ++ [D.bl (eqD (nuF _) .non || (eqD (mkF _) .non || false))] = _
            rw [nu_non, mk_non, Bool.or_false]
            exact all_one (f := fun k => D.bl (nonD (nuF (r.getD (2 * k) "")) || nonD (mkF (r.getD (2 * k + 1) "")))) hj
          · refine ⟨(List.range (r.length / 2)).map fun k => nonD (nuF (r.getD (2 * k) "")) || nonD (mkF (r.getD (2 * k + 1) "")), by rw [List.map_map]; rfl, ?_⟩
            rw [List.any_map]
            have hall : ((List.range (r.length / 2)).any (id ∘ fun k => nonD (nuF (r.getD (2 * k) "")) || nonD (mkF (r.getD (2 * k + 1) "")))) = !((List.range (r.length / 2)).all fun k => !(nonD (nuF (r.getD (2 * k) "")) || nonD (mkF (r.getD (2 * k + 1) "")))) := by
              rw [List.all_eq_not_any_not, Bool.not_not]
              congr 1
              funext k
              simp
            rw [hall]
            rw [prs_ok] at h
            refine ⟨fun z => ?_, fun z => ?_⟩
            · rw [if_neg] at h
              · exact h
              · rintro ⟨_, q⟩
                rw [Bool.and_eq_true] at q
                rw [q.2] at z
                cases z
            · rw [if_pos] at h
              · exact h
              · refine ⟨hp, ?_⟩
                have z9 : ((List.range (r.length / 2)).all fun k => !(nonD (nuF (r.getD (2 * k) "")) || nonD (mkF (r.getD (2 * k + 1) "")))) = true := by simpa using z
                rw [z9, decide_eq_true (by omega), decide_eq_true (by omega)]
                rfl
theorem ok_ldeed_in (Df : DefAt K mg "_law_deed_in" s_ldeed_in ["_law_words"]) (B : Bt mg) (C_lists_in : Callee P w K mg base 3 "_law_lists_in" ["_law_words"] [] llistS) (C_lnumber_in : Callee P w K mg base 2 "_law_number_in" ["_law_word"] [] numInS) (C_lmark_in : Callee P w K mg base 2 "_law_mark_in" ["_law_word"] [] mkInS) (C_lwhole_in : Callee P w K mg base 1 "_law_whole_in" ["_law_word", "_law_least", "_law_most"] [] lwS) : Callee P w K mg base 4 "_law_deed_in" ["_law_words"] [] ldinS := by
  refine callee_of Df sc_ldeed_in (by decide) (by decide) fun f cdv A outer s H EX W hr hG tk hp => ?_
  refine ⟨_, (ss_cons (s_if (t_in (hu65 hr) ((q_ix (p_nm 0) (q_int).p)).p ((q_tup (a_cons q_str (a_cons q_str a_nil)))).p) (ss_one (s_ret (q_callC C_lists_in tk (hr.mono (by decide)) hG (by rfl) (a_cons (p_nm 0).val a_nil) []))) ss_nil)
      (ss_cons (s_set 1 (q_lst a_nil) sc_ldeed_in.nd)
      (ss_cons (s_if ((w_andM (t_in (hu65 hr) ((q_ix (p_nm 0) (q_int).p)).p ((q_tup (a_cons q_str (a_cons q_str (a_cons q_str a_nil))))).p) (w_and1 (t_gt ((q_b1 c_len g_len (by rfl) B.len bt_len (p_nm 0))).p (q_int).p)))).t (ss_cons (s_set 1 (q_lst (a_cons (q_callC C_lnumber_in tk (hr.mono (by decide)) hG (by rfl) (a_cons (q_ix (p_nm 0) (q_int).p) a_nil) []) a_nil)) sc_ldeed_in.nd)
      (ss_cons (s_if ((w_andM (t_eq (hu65 hr) ((q_ix (p_nm 0) (q_int).p)).p (q_str).p) (w_and1 (t_eq (hu65 hr) ((q_b1 c_len g_len (by rfl) B.len bt_len (p_nm 0))).p (q_int).p)))).t (ss_one (s_expr (q_append 1 (a_cons (q_callC C_lmark_in tk (hr.mono (by decide)) hG (by rfl) (a_cons (q_ix (p_nm 0) (q_int).p) a_nil) []) a_nil)))) ss_nil)
      (ss_one (s_if ((w_andM (t_eq (hu65 hr) ((q_ix (p_nm 0) (q_int).p)).p (q_str).p) (w_and1 (t_eq (hu65 hr) ((q_b1 c_len g_len (by rfl) B.len bt_len (p_nm 0))).p (q_int).p)))).t (ss_cons (s_expr (q_append 1 (a_cons (q_callC C_lwhole_in tk (hr.mono (by decide)) hG (by rfl) (a_cons (q_ix (p_nm 0) (q_int).p) (a_cons q_int (a_cons q_int a_nil))) []) a_nil)))
      (ss_one (s_expr (q_append 1 (a_cons (q_callC C_lwhole_in tk (hr.mono (by decide)) hG (by rfl) (a_cons (q_ix (p_nm 0) (q_int).p) (a_cons q_int (a_cons q_int a_nil))) []) a_nil))))) ss_nil)))) (ss_one (s_if ((w_andM (t_in (hu65 hr) ((q_ix (p_nm 0) (q_int).p)).p ((q_tup (a_cons q_str (a_cons q_str (a_cons q_str (a_cons q_str a_nil)))))).p) (w_and1 (t_eq (hu65 hr) ((q_b1 c_len g_len (by rfl) B.len bt_len (p_nm 0))).p (q_int).p)))).t (ss_one (s_set 1 (q_lst (a_cons (q_callC C_lmark_in tk (hr.mono (by decide)) hG (by rfl) (a_cons (q_ix (p_nm 0) (q_int).p) a_nil) []) a_nil)) sc_ldeed_in.nd)) ss_nil)))
      (ss_cons (s_set 2 ((q_dis (pr_cons q_str q_int (pr_cons q_str q_int (pr_cons q_str q_int pr_nil))))).fz sc_ldeed_in.nd)
      (ss_cons (s_if ((w_orM (t_in (hu65 hr) (q_non).p (p_nm 1)) (w_orM (t_eqL (hu65 hr) (p_nm 1) ((q_lst a_nil)).p) (w_or1 (t_ne (hu65 hr) ((q_b1 c_len g_len (by rfl) B.len bt_len (p_nm 1))).p ((q_dget2 (hu65 hr) (p_nm 2) (q_ix (p_nm 0) (q_int).p) q_int)).p))))).t (ss_one (s_ret q_non)) ss_nil)
      (ss_cons (s_if (t_ne (hu65 hr) ((q_b1 c_len g_len (by rfl) B.len bt_len (p_nm 0))).p ((q_add ((q_b1 c_len g_len (by rfl) B.len bt_len (p_nm 1))).p (q_int).p)).p) (ss_one (s_ret q_non)) ss_nil)
      (ss_one (s_ret (q_ty1 call_tuple_of g_tuple (by rfl) B.tuple bt_tuple ((q_add ((q_lst (a_cons (q_ix (p_nm 0) (q_int).p) a_nil))).p (p_nm 1))).p))))))))), fun args Q E hl h => ?_⟩
  clear hl hr hG tk hp W EX H s outer A cdv f Df B C_lists_in C_lnumber_in C_lmark_in C_lwhole_in
  obtain ⟨w, r, rfl, hl, hz, h⟩ := h
  have a0 : atI (List.map D.str (w :: r)) 0 = some (.str w) := at_int (Int.le_refl 0) rfl
  walk_at "nf"
  have eqw : ∀ y : Str, eqD (.str y) (.str w) = decide (w = y) := fun y => by
    show decide (y = w) = _
    exact decide_eq_decide.mpr ⟨Eq.symm, Eq.symm⟩
  have any2 : ([D.str "haul", D.str "regive"].any fun z => eqD z (.str w)) = (decide (w = "haul") || decide (w = "regive")) := by
    simp [eqw]
  refine ⟨_, a0, rfl, fun z => ?_, fun z => ?_⟩
  · replace z := any2.symm.trans z
    rw [Bool.or_eq_true, decide_eq_true_eq, decide_eq_true_eq] at z
    exact ⟨w, r, rfl, z, hl, hz, h⟩
  replace z := any2.symm.trans z
  rw [Bool.or_eq_false_iff, decide_eq_false_iff_not, decide_eq_false_iff_not] at z
  clear any2
  refine ⟨_, a0, rfl, ?_⟩
  by_cases e_draw : w = "draw"
  · subst e_draw
    rw [due_draw] at h
    refine ⟨_, fun _ => ⟨rfl, rfl⟩, ?_⟩
    by_cases hr : r.length = 1
    · obtain ⟨x, rfl⟩ : ∃ x, r = [x] := by
        match r, hr with
        | [x], _ => exact ⟨_, rfl⟩
      refine ⟨fun _ => ?_, fun z1 => absurd z1 (by rw [List.length_map, List.length_cons, List.length_cons, decide_eq_true (by omega)]; decide +kernel)⟩
      refine ⟨_, at_int (by decide) rfl, x, rfl, hz x (by simp), ?_⟩
      refine ⟨_, a0, .inl rfl, false, fun z => absurd z (by decide +kernel), fun z => absurd z (by decide +kernel), fun z => ?_⟩
      refine ⟨_, a0, .inl rfl, false, fun z => absurd z (by decide +kernel), fun z => absurd z (by decide +kernel), fun z => ?_⟩
      refine ⟨⟨_, rfl⟩, ⟨_, rfl⟩, ⟨_, rfl⟩, ⟨by decide, by decide⟩, ?_⟩
      have hpl : Dspl 63 ([nuF x]) = true := by simp [Dspl, nu_pl, mk_pl2, oD_pl]
      refine ⟨.inr ⟨rfl, hpl⟩, _, fun z3 => .inl ⟨.inr ⟨by simpa [D.pl, T.d] using hpl, rfl⟩, (!eqD (.int ((([nuF x] : List D)).length : Nat)) (.int 1)), fun z4 => ⟨rfl, _, a0, _, rfl, .inl rfl, rfl, rfl⟩, rfl, rfl⟩, ?_⟩
      have no : ((([nuF x] : List D)).any (fun z => eqD z .non) = true ∨ (([nuF x] : List D)).length ≠ 1) ∨ (("draw" : Str) :: [x]).length ≠ (([nuF x] : List D)).length + 1 → Q (.fz .non) [] := fun q => by
        rw [if_neg] at h
        · exact h
        rintro ⟨_, q2⟩
        simp only [List.getD_cons_zero, List.getD_cons_succ] at q2
        simp only [List.cons_append, List.nil_append, List.any_cons, List.any_nil, nu_non, mk_non, oD_non, Bool.or_false, List.length_cons, List.length_nil] at q
        first | (rw [q2] at q; simp at q) | (simp only [Bool.or_assoc] at q2 q; rw [q2] at q; simp at q)
      refine ⟨fun z5 => no (.inl (tl_true (wn := 1) (by decide) z5)), fun z5 => ?_⟩
      obtain ⟨f1, f2⟩ := tl_false (wn := 1) z5
      refine ⟨.inl rfl, fun z6 => no (.inr ?_), fun z6 => ⟨_, a0, szL ?_, ?_⟩⟩
      · have := ln_ne (a := ((("draw" : Str) :: [x]).map D.str).length) (b := ([nuF x] : List D).length) z6; rwa [List.length_map] at this
      · show (1 : Nat) < 16777216; decide
      have f3 := ln_eq (a := ((("draw" : Str) :: [x]).map D.str).length) (b := ([nuF x] : List D).length) z6
      rw [List.length_map] at f3
      rw [if_pos] at h
      · exact h
      refine ⟨rfl, ?_⟩
      simpa [nu_non, mk_non, oD_non, Bool.or_assoc] using f1
    · match r, hl, hz, h, a0, hr with
      | [], hl, hz, h, a0, hr =>
        refine ⟨fun z1 => absurd z1 (by decide +kernel), fun z1 => ?_⟩
        refine ⟨_, a0, rfl, false, fun z => absurd z (by decide +kernel), ?_⟩
        refine ⟨fun z => absurd z (by decide +kernel), fun z => ?_⟩
        refine ⟨⟨_, rfl⟩, ⟨_, rfl⟩, ⟨_, rfl⟩, ⟨by decide, by decide⟩, ?_⟩
        have hpl : Dspl 63 ([]) = true := by simp [Dspl, nu_pl, mk_pl2, oD_pl]
        refine ⟨.inr ⟨rfl, hpl⟩, _, fun z3 => .inl ⟨.inr ⟨by simpa [D.pl, T.d] using hpl, rfl⟩, (!eqD (.int ((([] : List D)).length : Nat)) (.int 1)), fun z4 => ⟨rfl, _, a0, _, rfl, .inl rfl, rfl, rfl⟩, rfl, rfl⟩, ?_⟩
        have no : ((([] : List D)).any (fun z => eqD z .non) = true ∨ (([] : List D)).length ≠ 1) ∨ ([("draw" : Str)]).length ≠ (([] : List D)).length + 1 → Q (.fz .non) [] := fun q => by
          rw [if_neg (fun q => hr q.1)] at h
          exact h
        refine ⟨fun z5 => no (.inl (tl_true (wn := 1) (by decide) z5)), fun z5 => ?_⟩
        obtain ⟨f1, f2⟩ := tl_false (wn := 1) z5
        refine ⟨.inl rfl, fun z6 => no (.inr ?_), fun z6 => ⟨_, a0, szL ?_, ?_⟩⟩
        · have := ln_ne (a := (([("draw" : Str)]).map D.str).length) (b := ([] : List D).length) z6; rwa [List.length_map] at this
        · show (0 : Nat) < 16777216; decide
        have f3 := ln_eq (a := (([("draw" : Str)]).map D.str).length) (b := ([] : List D).length) z6
        rw [List.length_map] at f3
        simp at f2
      | x :: r, hl, hz, h, a0, hr =>
        refine ⟨fun _ => ?_, fun z1 => absurd z1 ?_⟩
        · refine ⟨_, at_int (by decide) rfl, x, rfl, hz x (by simp), ?_⟩
          refine ⟨_, a0, .inl rfl, false, fun z => absurd z (by decide +kernel), fun z => absurd z (by decide +kernel), fun z => ?_⟩
          refine ⟨_, a0, .inl rfl, false, fun z => absurd z (by decide +kernel), fun z => absurd z (by decide +kernel), fun z => ?_⟩
          refine ⟨⟨_, rfl⟩, ⟨_, rfl⟩, ⟨_, rfl⟩, ⟨by decide, by decide⟩, ?_⟩
          have hpl : Dspl 63 ([nuF x]) = true := by simp [Dspl, nu_pl, mk_pl2, oD_pl]
          refine ⟨.inr ⟨rfl, hpl⟩, _, fun z3 => .inl ⟨.inr ⟨by simpa [D.pl, T.d] using hpl, rfl⟩, (!eqD (.int ((([nuF x] : List D)).length : Nat)) (.int 1)), fun z4 => ⟨rfl, _, a0, _, rfl, .inl rfl, rfl, rfl⟩, rfl, rfl⟩, ?_⟩
          have no : ((([nuF x] : List D)).any (fun z => eqD z .non) = true ∨ (([nuF x] : List D)).length ≠ 1) ∨ (("draw" : Str) :: x :: r).length ≠ (([nuF x] : List D)).length + 1 → Q (.fz .non) [] := fun q => by
            rw [if_neg (fun q => hr q.1)] at h
            exact h
          refine ⟨fun z5 => no (.inl (tl_true (wn := 1) (by decide) z5)), fun z5 => ?_⟩
          obtain ⟨f1, f2⟩ := tl_false (wn := 1) z5
          refine ⟨.inl rfl, fun z6 => no (.inr ?_), fun z6 => ⟨_, a0, szL ?_, ?_⟩⟩
          · have := ln_ne (a := ((("draw" : Str) :: x :: r).map D.str).length) (b := ([nuF x] : List D).length) z6; rwa [List.length_map] at this
          · show (1 : Nat) < 16777216; decide
          have f3 := ln_eq (a := ((("draw" : Str) :: x :: r).map D.str).length) (b := ([nuF x] : List D).length) z6
          rw [List.length_map] at f3
          simp at f3 hr
          exact absurd (List.length_eq_zero_iff.mpr f3) (fun q => hr (by simpa using q))
        · rw [List.length_map, List.length_cons, List.length_cons, decide_eq_true (by omega)]; decide +kernel
  by_cases e_give : w = "give"
  · subst e_give
    rw [due_give] at h
    refine ⟨_, fun _ => ⟨rfl, rfl⟩, ?_⟩
    by_cases hr : r.length = 2
    · obtain ⟨x, y, rfl⟩ : ∃ x y, r = [x, y] := by
        match r, hr with
        | [x, y], _ => exact ⟨_, _, rfl⟩
      refine ⟨fun _ => ?_, fun z1 => absurd z1 (by rw [List.length_map, List.length_cons, List.length_cons, decide_eq_true (by omega)]; decide +kernel)⟩
      refine ⟨_, at_int (by decide) rfl, x, rfl, hz x (by simp), ?_⟩
      refine ⟨_, a0, .inl rfl, true, fun _ => ⟨.inl rfl, rfl, rfl⟩, fun _ => ?_, fun z => absurd z (by decide +kernel)⟩
      refine ⟨rfl, _, at_int (by decide) rfl, y, rfl, hz y (by simp), szL (by simp), ?_⟩
      refine ⟨_, a0, .inl rfl, false, fun z => absurd z (by decide +kernel), fun z => absurd z (by decide +kernel), fun z => ?_⟩
      refine ⟨⟨_, rfl⟩, ⟨_, rfl⟩, ⟨_, rfl⟩, ⟨by decide, by decide⟩, ?_⟩
      have hpl : Dspl 63 ([nuF x] ++ [mkF y]) = true := by simp [Dspl, nu_pl, mk_pl2, oD_pl]
      refine ⟨.inr ⟨rfl, hpl⟩, _, fun z3 => .inl ⟨.inr ⟨by simpa [D.pl, T.d] using hpl, rfl⟩, (!eqD (.int ((([nuF x] ++ [mkF y] : List D)).length : Nat)) (.int 2)), fun z4 => ⟨rfl, _, a0, _, rfl, .inl rfl, rfl, rfl⟩, rfl, rfl⟩, ?_⟩
      have no : ((([nuF x] ++ [mkF y] : List D)).any (fun z => eqD z .non) = true ∨ (([nuF x] ++ [mkF y] : List D)).length ≠ 2) ∨ (("give" : Str) :: [x, y]).length ≠ (([nuF x] ++ [mkF y] : List D)).length + 1 → Q (.fz .non) [] := fun q => by
        rw [if_neg] at h
        · exact h
        rintro ⟨_, q2⟩
        simp only [List.getD_cons_zero, List.getD_cons_succ] at q2
        simp only [List.cons_append, List.nil_append, List.any_cons, List.any_nil, nu_non, mk_non, oD_non, Bool.or_false, List.length_cons, List.length_nil] at q
        first | (rw [q2] at q; simp at q) | (simp only [Bool.or_assoc] at q2 q; rw [q2] at q; simp at q)
      refine ⟨fun z5 => no (.inl (tl_true (wn := 2) (by decide) z5)), fun z5 => ?_⟩
      obtain ⟨f1, f2⟩ := tl_false (wn := 2) z5
      refine ⟨.inl rfl, fun z6 => no (.inr ?_), fun z6 => ⟨_, a0, szL ?_, ?_⟩⟩
      · have := ln_ne (a := ((("give" : Str) :: [x, y]).map D.str).length) (b := ([nuF x] ++ [mkF y] : List D).length) z6; rwa [List.length_map] at this
      · show (2 : Nat) < 16777216; decide
      have f3 := ln_eq (a := ((("give" : Str) :: [x, y]).map D.str).length) (b := ([nuF x] ++ [mkF y] : List D).length) z6
      rw [List.length_map] at f3
      rw [if_pos] at h
      · exact h
      refine ⟨rfl, ?_⟩
      simpa [nu_non, mk_non, oD_non, Bool.or_assoc] using f1
    · match r, hl, hz, h, a0, hr with
      | [], hl, hz, h, a0, hr =>
        refine ⟨fun z1 => absurd z1 (by decide +kernel), fun z1 => ?_⟩
        refine ⟨_, a0, rfl, false, fun z => absurd z (by decide +kernel), ?_⟩
        refine ⟨fun z => absurd z (by decide +kernel), fun z => ?_⟩
        refine ⟨⟨_, rfl⟩, ⟨_, rfl⟩, ⟨_, rfl⟩, ⟨by decide, by decide⟩, ?_⟩
        have hpl : Dspl 63 ([]) = true := by simp [Dspl, nu_pl, mk_pl2, oD_pl]
        refine ⟨.inr ⟨rfl, hpl⟩, _, fun z3 => .inl ⟨.inr ⟨by simpa [D.pl, T.d] using hpl, rfl⟩, (!eqD (.int ((([] : List D)).length : Nat)) (.int 2)), fun z4 => ⟨rfl, _, a0, _, rfl, .inl rfl, rfl, rfl⟩, rfl, rfl⟩, ?_⟩
        have no : ((([] : List D)).any (fun z => eqD z .non) = true ∨ (([] : List D)).length ≠ 2) ∨ ([("give" : Str)]).length ≠ (([] : List D)).length + 1 → Q (.fz .non) [] := fun q => by
          rw [if_neg (fun q => hr q.1)] at h
          exact h
        refine ⟨fun z5 => no (.inl (tl_true (wn := 2) (by decide) z5)), fun z5 => ?_⟩
        obtain ⟨f1, f2⟩ := tl_false (wn := 2) z5
        refine ⟨.inl rfl, fun z6 => no (.inr ?_), fun z6 => ⟨_, a0, szL ?_, ?_⟩⟩
        · have := ln_ne (a := (([("give" : Str)]).map D.str).length) (b := ([] : List D).length) z6; rwa [List.length_map] at this
        · show (0 : Nat) < 16777216; decide
        have f3 := ln_eq (a := (([("give" : Str)]).map D.str).length) (b := ([] : List D).length) z6
        rw [List.length_map] at f3
        simp at f2
      | x :: r, hl, hz, h, a0, hr =>
        refine ⟨fun _ => ?_, fun z1 => absurd z1 ?_⟩
        · refine ⟨_, at_int (by decide) rfl, x, rfl, hz x (by simp), ?_⟩
          refine ⟨_, a0, .inl rfl, _, fun _ => ⟨.inl rfl, rfl, rfl⟩, fun z => ?_, fun z => ?_⟩
          · rw [Bool.and_eq_true] at z
            have q2 : eqD (.int (((("give" : Str) :: x :: r).map D.str).length : Nat)) (.int 3) = true := z.2
            rw [ln_no (by simp at hr ⊢; omega)] at q2
            cases q2
          refine ⟨_, a0, .inl rfl, false, fun z => absurd z (by decide +kernel), fun z => absurd z (by decide +kernel), fun z => ?_⟩
          refine ⟨⟨_, rfl⟩, ⟨_, rfl⟩, ⟨_, rfl⟩, ⟨by decide, by decide⟩, ?_⟩
          have hpl : Dspl 63 ([nuF x]) = true := by simp [Dspl, nu_pl, mk_pl2, oD_pl]
          refine ⟨.inr ⟨rfl, hpl⟩, _, fun z3 => .inl ⟨.inr ⟨by simpa [D.pl, T.d] using hpl, rfl⟩, (!eqD (.int ((([nuF x] : List D)).length : Nat)) (.int 2)), fun z4 => ⟨rfl, _, a0, _, rfl, .inl rfl, rfl, rfl⟩, rfl, rfl⟩, ?_⟩
          have no : ((([nuF x] : List D)).any (fun z => eqD z .non) = true ∨ (([nuF x] : List D)).length ≠ 2) ∨ (("give" : Str) :: x :: r).length ≠ (([nuF x] : List D)).length + 1 → Q (.fz .non) [] := fun q => by
            rw [if_neg (fun q => hr q.1)] at h
            exact h
          refine ⟨fun z5 => no (.inl (tl_true (wn := 2) (by decide) z5)), fun z5 => ?_⟩
          obtain ⟨f1, f2⟩ := tl_false (wn := 2) z5
          refine ⟨.inl rfl, fun z6 => no (.inr ?_), fun z6 => ⟨_, a0, szL ?_, ?_⟩⟩
          · have := ln_ne (a := ((("give" : Str) :: x :: r).map D.str).length) (b := ([nuF x] : List D).length) z6; rwa [List.length_map] at this
          · show (1 : Nat) < 16777216; decide
          have f3 := ln_eq (a := ((("give" : Str) :: x :: r).map D.str).length) (b := ([nuF x] : List D).length) z6
          rw [List.length_map] at f3
          simp at f2
        · rw [List.length_map, List.length_cons, List.length_cons, decide_eq_true (by omega)]; decide +kernel
  by_cases e_crack : w = "crack"
  · subst e_crack
    rw [due_crack] at h
    refine ⟨_, fun _ => ⟨rfl, rfl⟩, ?_⟩
    by_cases hr : r.length = 3
    · obtain ⟨x, y, v, rfl⟩ : ∃ x y v, r = [x, y, v] := by
        match r, hr with
        | [x, y, v], _ => exact ⟨_, _, _, rfl⟩
      refine ⟨fun _ => ?_, fun z1 => absurd z1 (by rw [List.length_map, List.length_cons, List.length_cons, decide_eq_true (by omega)]; decide +kernel)⟩
      refine ⟨_, at_int (by decide) rfl, x, rfl, hz x (by simp), ?_⟩
      refine ⟨_, a0, .inl rfl, false, fun z => absurd z (by decide +kernel), fun z => absurd z (by decide +kernel), fun z => ?_⟩
      refine ⟨_, a0, .inl rfl, true, fun _ => ⟨.inl rfl, rfl, rfl⟩, fun _ => ?_, fun z => absurd z (by decide +kernel)⟩
      refine ⟨rfl, _, at_int (by decide) rfl, y, 0, 2, rfl, hz y (by simp), by decide, by decide, szL (by simp), ?_⟩
      refine ⟨rfl, _, at_int (by decide) rfl, v, 1, 1000000, rfl, hz v (by simp), by decide, by decide, szL (by simp), ?_⟩
      refine ⟨⟨_, rfl⟩, ⟨_, rfl⟩, ⟨_, rfl⟩, ⟨by decide, by decide⟩, ?_⟩
      have hpl : Dspl 63 ([nuF x] ++ [oD (inR 0 2 (whF y))] ++ [oD (inR 1 1000000 (whF v))]) = true := by simp [Dspl, nu_pl, mk_pl2, oD_pl]
      refine ⟨.inr ⟨rfl, hpl⟩, _, fun z3 => .inl ⟨.inr ⟨by simpa [D.pl, T.d] using hpl, rfl⟩, (!eqD (.int ((([nuF x] ++ [oD (inR 0 2 (whF y))] ++ [oD (inR 1 1000000 (whF v))] : List D)).length : Nat)) (.int 3)), fun z4 => ⟨rfl, _, a0, _, rfl, .inl rfl, rfl, rfl⟩, rfl, rfl⟩, ?_⟩
      have no : ((([nuF x] ++ [oD (inR 0 2 (whF y))] ++ [oD (inR 1 1000000 (whF v))] : List D)).any (fun z => eqD z .non) = true ∨ (([nuF x] ++ [oD (inR 0 2 (whF y))] ++ [oD (inR 1 1000000 (whF v))] : List D)).length ≠ 3) ∨ (("crack" : Str) :: [x, y, v]).length ≠ (([nuF x] ++ [oD (inR 0 2 (whF y))] ++ [oD (inR 1 1000000 (whF v))] : List D)).length + 1 → Q (.fz .non) [] := fun q => by
        rw [if_neg] at h
        · exact h
        rintro ⟨_, q2⟩
        simp only [List.getD_cons_zero, List.getD_cons_succ] at q2
        simp only [List.cons_append, List.nil_append, List.any_cons, List.any_nil, nu_non, mk_non, oD_non, Bool.or_false, List.length_cons, List.length_nil] at q
        first | (rw [q2] at q; simp at q) | (simp only [Bool.or_assoc] at q2 q; rw [q2] at q; simp at q)
      refine ⟨fun z5 => no (.inl (tl_true (wn := 3) (by decide) z5)), fun z5 => ?_⟩
      obtain ⟨f1, f2⟩ := tl_false (wn := 3) z5
      refine ⟨.inl rfl, fun z6 => no (.inr ?_), fun z6 => ⟨_, a0, szL ?_, ?_⟩⟩
      · have := ln_ne (a := ((("crack" : Str) :: [x, y, v]).map D.str).length) (b := ([nuF x] ++ [oD (inR 0 2 (whF y))] ++ [oD (inR 1 1000000 (whF v))] : List D).length) z6; rwa [List.length_map] at this
      · show (3 : Nat) < 16777216; decide
      have f3 := ln_eq (a := ((("crack" : Str) :: [x, y, v]).map D.str).length) (b := ([nuF x] ++ [oD (inR 0 2 (whF y))] ++ [oD (inR 1 1000000 (whF v))] : List D).length) z6
      rw [List.length_map] at f3
      rw [if_pos] at h
      · exact h
      refine ⟨rfl, ?_⟩
      simpa [nu_non, mk_non, oD_non, Bool.or_assoc] using f1
    · match r, hl, hz, h, a0, hr with
      | [], hl, hz, h, a0, hr =>
        refine ⟨fun z1 => absurd z1 (by decide +kernel), fun z1 => ?_⟩
        refine ⟨_, a0, rfl, false, fun z => absurd z (by decide +kernel), ?_⟩
        refine ⟨fun z => absurd z (by decide +kernel), fun z => ?_⟩
        refine ⟨⟨_, rfl⟩, ⟨_, rfl⟩, ⟨_, rfl⟩, ⟨by decide, by decide⟩, ?_⟩
        have hpl : Dspl 63 ([]) = true := by simp [Dspl, nu_pl, mk_pl2, oD_pl]
        refine ⟨.inr ⟨rfl, hpl⟩, _, fun z3 => .inl ⟨.inr ⟨by simpa [D.pl, T.d] using hpl, rfl⟩, (!eqD (.int ((([] : List D)).length : Nat)) (.int 3)), fun z4 => ⟨rfl, _, a0, _, rfl, .inl rfl, rfl, rfl⟩, rfl, rfl⟩, ?_⟩
        have no : ((([] : List D)).any (fun z => eqD z .non) = true ∨ (([] : List D)).length ≠ 3) ∨ ([("crack" : Str)]).length ≠ (([] : List D)).length + 1 → Q (.fz .non) [] := fun q => by
          rw [if_neg (fun q => hr q.1)] at h
          exact h
        refine ⟨fun z5 => no (.inl (tl_true (wn := 3) (by decide) z5)), fun z5 => ?_⟩
        obtain ⟨f1, f2⟩ := tl_false (wn := 3) z5
        refine ⟨.inl rfl, fun z6 => no (.inr ?_), fun z6 => ⟨_, a0, szL ?_, ?_⟩⟩
        · have := ln_ne (a := (([("crack" : Str)]).map D.str).length) (b := ([] : List D).length) z6; rwa [List.length_map] at this
        · show (0 : Nat) < 16777216; decide
        have f3 := ln_eq (a := (([("crack" : Str)]).map D.str).length) (b := ([] : List D).length) z6
        rw [List.length_map] at f3
        simp at f2
      | x :: r, hl, hz, h, a0, hr =>
        refine ⟨fun _ => ?_, fun z1 => absurd z1 ?_⟩
        · refine ⟨_, at_int (by decide) rfl, x, rfl, hz x (by simp), ?_⟩
          refine ⟨_, a0, .inl rfl, false, fun z => absurd z (by decide +kernel), fun z => absurd z (by decide +kernel), fun z => ?_⟩
          refine ⟨_, a0, .inl rfl, _, fun _ => ⟨.inl rfl, rfl, rfl⟩, fun z => ?_, fun z => ?_⟩
          · rw [Bool.and_eq_true] at z
            have q2 : eqD (.int (((("crack" : Str) :: x :: r).map D.str).length : Nat)) (.int 4) = true := z.2
            rw [ln_no (by simp at hr ⊢; omega)] at q2
            cases q2
          refine ⟨⟨_, rfl⟩, ⟨_, rfl⟩, ⟨_, rfl⟩, ⟨by decide, by decide⟩, ?_⟩
          have hpl : Dspl 63 ([nuF x]) = true := by simp [Dspl, nu_pl, mk_pl2, oD_pl]
          refine ⟨.inr ⟨rfl, hpl⟩, _, fun z3 => .inl ⟨.inr ⟨by simpa [D.pl, T.d] using hpl, rfl⟩, (!eqD (.int ((([nuF x] : List D)).length : Nat)) (.int 3)), fun z4 => ⟨rfl, _, a0, _, rfl, .inl rfl, rfl, rfl⟩, rfl, rfl⟩, ?_⟩
          have no : ((([nuF x] : List D)).any (fun z => eqD z .non) = true ∨ (([nuF x] : List D)).length ≠ 3) ∨ (("crack" : Str) :: x :: r).length ≠ (([nuF x] : List D)).length + 1 → Q (.fz .non) [] := fun q => by
            rw [if_neg (fun q => hr q.1)] at h
            exact h
          refine ⟨fun z5 => no (.inl (tl_true (wn := 3) (by decide) z5)), fun z5 => ?_⟩
          obtain ⟨f1, f2⟩ := tl_false (wn := 3) z5
          refine ⟨.inl rfl, fun z6 => no (.inr ?_), fun z6 => ⟨_, a0, szL ?_, ?_⟩⟩
          · have := ln_ne (a := ((("crack" : Str) :: x :: r).map D.str).length) (b := ([nuF x] : List D).length) z6; rwa [List.length_map] at this
          · show (1 : Nat) < 16777216; decide
          have f3 := ln_eq (a := ((("crack" : Str) :: x :: r).map D.str).length) (b := ([nuF x] : List D).length) z6
          rw [List.length_map] at f3
          simp at f2
        · rw [List.length_map, List.length_cons, List.length_cons, decide_eq_true (by omega)]; decide +kernel
  have any3 : ([D.str "draw", D.str "give", D.str "crack"].any fun z => eqD z (.str w)) = false := by
    simp [eqw, e_draw, e_give, e_crack]
  have gn := get_no e_draw e_give e_crack
  refine ⟨false, fun z => absurd (any3.symm.trans z) (by decide), fun z => absurd z (by rw [Bool.and_false]; decide), fun z1 => ?_⟩
  by_cases hm : w ∈ mkWs
  · rw [due_mark hm] at h
    have any4 : ([D.str "leave", D.str "dress", D.str "lay", D.str "lift"].any fun z => eqD z (.str w)) = true := by
      simp only [mkWs, List.mem_cons, List.not_mem_nil, or_false] at hm
      rcases hm with rfl | rfl | rfl | rfl <;> decide +kernel
    refine ⟨_, a0, rfl, _, fun _ => ⟨.inl rfl, rfl, rfl⟩, fun z => ?_, fun z => ?_⟩
    · rw [Bool.and_eq_true] at z
      have hr : r.length = 1 := by
        have q2 : eqD (.int (((w :: r).map D.str).length : Nat)) (.int 2) = true := z.2
        simp [eqD] at q2
        omega
      obtain ⟨x, rfl⟩ : ∃ x, r = [x] := by
        match r, hr with
        | [x], _ => exact ⟨_, rfl⟩
      refine ⟨_, at_int (by decide) rfl, x, rfl, hz x (by simp), ?_⟩
      refine ⟨⟨_, rfl⟩, ⟨_, rfl⟩, ⟨_, rfl⟩, ⟨by decide, by decide⟩, ?_⟩
      have hpl : Dspl 63 ([mkF x]) = true := by simp [Dspl, nu_pl, mk_pl2, oD_pl]
      refine ⟨.inr ⟨rfl, hpl⟩, _, fun z3 => .inl ⟨.inr ⟨by simpa [D.pl, T.d] using hpl, rfl⟩, (!eqD (.int ((([mkF x] : List D)).length : Nat)) (.int 1)), fun z4 => ⟨rfl, _, a0, _, gn, .inl rfl, rfl, rfl⟩, rfl, rfl⟩, ?_⟩
      have no : ((([mkF x] : List D)).any (fun z => eqD z .non) = true ∨ (([mkF x] : List D)).length ≠ 1) ∨ (w :: [x]).length ≠ (([mkF x] : List D)).length + 1 → Q (.fz .non) [] := fun q => by
        rw [if_neg] at h
        · exact h
        rintro ⟨_, q2⟩
        simp only [List.getD_cons_zero, List.getD_cons_succ] at q2
        simp only [List.cons_append, List.nil_append, List.any_cons, List.any_nil, nu_non, mk_non, oD_non, Bool.or_false, List.length_cons, List.length_nil] at q
        rw [q2] at q
        simp at q
      refine ⟨fun z5 => no (.inl (tl_true (wn := 1) (by decide) z5)), fun z5 => ?_⟩
      obtain ⟨f1, f2⟩ := tl_false (wn := 1) z5
      refine ⟨.inl rfl, fun z6 => no (.inr ?_), fun z6 => ⟨_, a0, szL ?_, ?_⟩⟩
      · have := ln_ne (a := ((w :: [x]).map D.str).length) (b := ([mkF x] : List D).length) z6; rwa [List.length_map] at this
      · show (1 : Nat) < 16777216; decide
      have f3 := ln_eq (a := ((w :: [x]).map D.str).length) (b := ([mkF x] : List D).length) z6
      rw [List.length_map] at f3
      rw [if_pos] at h
      · exact h
      refine ⟨rfl, ?_⟩
      simpa [nu_non, mk_non, oD_non, Bool.or_assoc] using f1
    · have hr : ¬ r.length = 1 := fun e => by
        have z : (([D.str "leave", D.str "dress", D.str "lay", D.str "lift"].any fun z => eqD z (.str w)) && eqD (.int (((w :: r).map D.str).length : Nat)) (.int 2)) = false := z
        rw [any4, List.length_map, List.length_cons, e] at z
        exact absurd z (by decide)
      refine ⟨⟨_, rfl⟩, ⟨_, rfl⟩, ⟨_, rfl⟩, ⟨by decide, by decide⟩, ?_⟩
      have hpl : Dspl 63 ([]) = true := by simp [Dspl, nu_pl, mk_pl2, oD_pl]
      refine ⟨.inr ⟨rfl, hpl⟩, _, fun z3 => .inl ⟨.inr ⟨by simpa [D.pl, T.d] using hpl, rfl⟩, (!eqD (.int ((([] : List D)).length : Nat)) (.int 1)), fun z4 => ⟨rfl, _, a0, _, gn, .inl rfl, rfl, rfl⟩, rfl, rfl⟩, ?_⟩
      have no : ((([] : List D)).any (fun z => eqD z .non) = true ∨ (([] : List D)).length ≠ 1) ∨ (w :: r).length ≠ (([] : List D)).length + 1 → Q (.fz .non) [] := fun q => by
        rw [if_neg (fun q => hr q.1)] at h
        exact h
      refine ⟨fun z5 => no (.inl (tl_true (wn := 1) (by decide) z5)), fun z5 => ?_⟩
      obtain ⟨f1, f2⟩ := tl_false (wn := 1) z5
      refine ⟨.inl rfl, fun z6 => no (.inr ?_), fun z6 => ⟨_, a0, szL ?_, ?_⟩⟩
      · have := ln_ne (a := ((w :: r).map D.str).length) (b := ([] : List D).length) z6; rwa [List.length_map] at this
      · show (0 : Nat) < 16777216; decide
      have f3 := ln_eq (a := ((w :: r).map D.str).length) (b := ([] : List D).length) z6
      rw [List.length_map] at f3
      simp at f2
  · rw [due_none hm (by simp; exact ⟨z.2, z.1, e_draw, e_give, e_crack⟩)] at h
    have any4 : ([D.str "leave", D.str "dress", D.str "lay", D.str "lift"].any fun z => eqD z (.str w)) = false := by
      simp only [mkWs, List.mem_cons, List.not_mem_nil, or_false, not_or] at hm
      simp [eqw, hm]
    refine ⟨_, a0, rfl, false, fun z => absurd (any4.symm.trans z) (by decide), fun z => absurd z (by rw [Bool.and_false]; decide), fun z => ?_⟩
    refine ⟨⟨_, rfl⟩, ⟨_, rfl⟩, ⟨_, rfl⟩, ⟨by decide, by decide⟩, ?_⟩
    have hpl : Dspl 63 ([]) = true := by simp [Dspl, nu_pl, mk_pl2, oD_pl]
    refine ⟨.inr ⟨rfl, hpl⟩, _, fun z3 => .inl ⟨.inr ⟨by simpa [D.pl, T.d] using hpl, rfl⟩, (!eqD (.int ((([] : List D)).length : Nat)) (.int 1)), fun z4 => ⟨rfl, _, a0, _, gn, .inl rfl, rfl, rfl⟩, rfl, rfl⟩, ?_⟩
    have no : ((([] : List D)).any (fun z => eqD z .non) = true ∨ (([] : List D)).length ≠ 1) ∨ (w :: r).length ≠ (([] : List D)).length + 1 → Q (.fz .non) [] := fun q => by
      exact h
    refine ⟨fun z5 => no (.inl (tl_true (wn := 1) (by decide) z5)), fun z5 => ?_⟩
    obtain ⟨f1, f2⟩ := tl_false (wn := 1) z5
    refine ⟨.inl rfl, fun z6 => no (.inr ?_), fun z6 => ⟨_, a0, szL ?_, ?_⟩⟩
    · have := ln_ne (a := ((w :: r).map D.str).length) (b := ([] : List D).length) z6; rwa [List.length_map] at this
    · show (0 : Nat) < 16777216; decide
    have f3 := ln_eq (a := ((w :: r).map D.str).length) (b := ([] : List D).length) z6
    rw [List.length_map] at f3
    simp at f2
theorem ok_due (Df : DefAt K mg "_law_due" s_due ["_law_word", "_law_text_here"]) (C_lnumber_in : Callee P w K mg base 2 "_law_number_in" ["_law_word"] [] numInS) (C_lmark_in : Callee P w K mg base 2 "_law_mark_in" ["_law_word"] [] mkInS) (C_ldeed_in : Callee P w K mg base 4 "_law_deed_in" ["_law_words"] [] ldinS) : Callee P w K mg base 5 "_law_due" ["_law_word", "_law_text_here"] [] ldueS := by
  refine callee_of Df sc_due (by decide) (by decide) fun f cdv A outer s H EX W hr hG tk hp => ?_
  refine ⟨_, (ss_cons (s_if (t_eq (hu65 hr) (p_nm 0) (q_str).p) (ss_one (s_set 2 (q_callC C_lnumber_in tk (hr.mono (by decide)) hG (by rfl) (a_cons (p_nm 1).val a_nil) []) sc_due.nd)) (ss_one (s_if (t_eq (hu65 hr) (p_nm 0) (q_str).p) (ss_one (s_set 2 (q_callC C_lmark_in tk (hr.mono (by decide)) hG (by rfl) (a_cons (p_nm 1).val a_nil) []) sc_due.nd)) (ss_one (s_set 2 (q_callC C_ldeed_in tk (hr.mono (by decide)) hG (by rfl) (a_cons ((q_split (p_nm 1).val (q_str).p)).fz a_nil) []) sc_due.nd)))))
      (ss_cons (s_if (t_isN (p_nm 2) (q_non).p) (ss_one (s_ret (q_tup (a_cons q_str (a_cons q_bl a_nil))))) ss_nil)
      (ss_one (s_ret (q_tup (a_cons q_str (a_cons (p_nm 2).val a_nil))))))), fun args Q E hl h => ?_⟩
  clear hl hr hG tk hp W EX H s outer A cdv f Df C_lnumber_in C_lmark_in C_ldeed_in
  obtain ⟨w, x, rfl, hw, hz, h⟩ := h
  walk_at "nf"
  simp only [wsL, List.mem_cons, List.not_mem_nil, or_false] at hw
  rcases hw with rfl | rfl | rfl
  · refine ⟨.inl rfl, fun _ => ?_, fun z => absurd z (by decide +kernel)⟩
    walk_at "nf"
    refine ⟨x, rfl, hz, ?_⟩
    walk_at "nf"
    refine ⟨fun z => ?_, fun z => ?_⟩
    · rw [ans_ref fun y e => by cases e; exact z] at h
      exact h
    · rw [ans_told (w := "number") z] at h
      exact h
  · refine ⟨.inl rfl, fun z => absurd z (by decide +kernel), fun _ => ?_⟩
    walk_at "nf"
    refine ⟨.inl rfl, fun _ => ?_, fun z => absurd z (by decide +kernel)⟩
    walk_at "nf"
    refine ⟨x, rfl, hz, ?_⟩
    walk_at "nf"
    refine ⟨fun z => ?_, fun z => ?_⟩
    · rw [ans_ref fun y e => by cases e; rw [ans_m]; exact z] at h
      exact h
    · rw [ans_told (w := "mark") (by rw [ans_m]; exact z), ans_m] at h
      exact h
  · refine ⟨.inl rfl, fun z => absurd z (by decide +kernel), fun _ => ?_⟩
    walk_at "nf"
    refine ⟨.inl rfl, fun z => absurd z (by decide +kernel), fun _ => ?_⟩
    walk_at "nf"
    refine ⟨_, rfl, by decide, szT hz, ?_⟩
    have hne : Txt.split x " " ≠ [] := split_ne
    have hp : ∀ p, p ∈ Txt.split x " " → shT p := fun p hp => Nat.le_trans (split_part hp) hz
    have hl : (Txt.split x " ").length ≤ 2000000 := Nat.le_trans split_len (Nat.le_trans (Nat.add_le_add_right hz 2) (by decide))
    have ha := ans_d (x := x)
    have r1 : nonD (dueD (Txt.split x " ")) = true → Q (.fz refD) [] := fun z => by
      rw [ans_ref fun y e => by cases e; rw [ha]; exact z] at h
      exact h
    have r2 : nonD (dueD (Txt.split x " ")) = false → Q (.fz (.nd .tup [.str "told", dueD (Txt.split x " ")])) [] := fun z => by
      rw [ans_told (w := "deed") (by rw [ha]; exact z), ha] at h
      exact h
    clear h ha
    revert hne hp hl r1 r2
    generalize Txt.split x " " = ws
    intro hne hp hl r1 r2
    match ws, hne, hp, hl, r1, r2 with
    | w0 :: r, _, hp, hl, r1, r2 =>
    refine ⟨w0, r, rfl, hl, hp, ?_⟩
    walk_at "nf"
    exact ⟨r1, r2⟩
theorem ok_told (Df : DefAt K mg "_law_told" s_told ["_law_word", "_law_text_here"]) (B : Bt mg) (T : Xt K mg ca nsL tsL csL fsL isaL) (C_read_deed : Callee P w K mg base 9 "read_deed" ["text"] [] (rdDS ca)) (C_read_number : Callee P w K mg base 6 "read_number" ["text"] [] (rdNS ca)) (C_read_mark : Callee P w K mg base 6 "read_mark" ["text"] [] (rdMS ca)) : Callee P w K mg base 10 "_law_told" ["_law_word", "_law_text_here"] [] ltoldS := by
  refine callee_of Df sc_told (by decide) (by decide) fun f cdv A outer s H EX W hr hG tk hp => ?_
  refine ⟨_, (ss_one (s_tryAs 2 T (by simp [csL]) (by rfl) tk sc_told.nd
      (fun W1 pn xe tk hp => (ss_cons (s_if (t_eq (hu65 hr) (p_nm 0) (q_str).p) (ss_one (s_ret (q_tup (a_cons q_str (a_cons (q_callC C_read_number tk (hr.mono (by decide)) hG (by rfl) (a_cons (p_nm 1).val a_nil) []) a_nil))))) ss_nil)
      (ss_cons (s_if (t_eq (hu65 hr) (p_nm 0) (q_str).p) (ss_one (s_ret (q_tup (a_cons q_str (a_cons (q_callC C_read_mark tk (hr.mono (by decide)) hG (by rfl) (a_cons (p_nm 1).val a_nil) []) a_nil))))) ss_nil)
      (ss_one (s_ret (q_tup (a_cons q_str (a_cons ((q_callC C_read_deed tk (hr.mono (by decide)) hG (by rfl) (a_cons (p_nm 1).val a_nil) [])).fz a_nil))))))))
      (fun a C d pn hP => (ss_cons (s_if ((w_orM (t_not (t_val (q_isP T hP (by simp [tsL]) (by rfl) B.isinstance (by rfl) (p_nm 2)))) (w_or1 (t_not (t_val (q_isV T hP (by rfl) B.isinstance (by rfl) B.ValueError (p_nm 2))))))).t (ss_one (s_ret (q_tup (a_cons q_str (a_cons q_bl a_nil))))) ss_nil)
      (ss_one (s_ret (q_tup (a_cons q_str (a_cons (q_not (q_isPT (ys := ["Wrong", "NoPlan", "NoRow"]) T hP (.cons _ (by simp [tsL]) (by rfl) (by decide) (by rfl) (.cons _ (by simp [tsL]) (by rfl) (by decide) (by rfl) (.cons _ (by simp [tsL]) (by rfl) (by decide) (by rfl) .nil))) (by rfl) B.isinstance (p_nm 2))) a_nil))))))))), fun args Q E hl h => ?_⟩
  clear hl hr hG tk hp W EX H s outer A cdv f Df B T C_read_deed C_read_number C_read_mark
  obtain ⟨w, d, rfl, hw, ht, h⟩ := h
  walk_at "nf"
  have ref : (∀ x, d = .str x → nonD (ansF w x) = true) → Q (.fz refD) [] := fun q => by rw [ans_ref q] at h; exact h
  have tol : ∀ x, d = .str x → nonD (ansF w x) = false → Q (.fz (.nd .tup [.str "told", ansF w x])) [] := fun x e q => by subst e; rw [ans_told q] at h; exact h
  clear h
  simp only [wsL, List.mem_cons, List.not_mem_nil, or_false] at hw
  rcases hw with rfl | rfl | rfl
  · refine ⟨.inl rfl, fun _ => ?_, fun z => absurd z (by decide +kernel)⟩
    walk_at "nf"
    refine ⟨d, rfl, ht, fun hall => ?_, fun x e hne => ?_⟩
    · refine ⟨"NoText", rfl, by simp [nsL], fun _ a dd hd => ?_, fun z => by simp [isaL] at z⟩
      walk_at "nf"
      refine ⟨rfl, rfl, rfl, "NoText", rfl, by simp [nsL], ?_⟩
      refine ⟨false, fun _ => ⟨rfl, rfl, rfl, "NoText", rfl, by simp [nsL], rfl, rfl⟩, fun z => absurd z (by simp [isaL]), fun _ => ?_⟩
      walk_at "nf"
      refine ⟨rfl, rfl, rfl, "NoText", rfl, by simp [nsL], ?_⟩
      exact ref fun x e => by rw [ans_n, hall x e]; rfl
    · exact tol x e (non_ne hne)
  · refine ⟨.inl rfl, fun z => absurd z (by decide +kernel), fun _ => ?_⟩
    walk_at "nf"
    refine ⟨.inl rfl, fun _ => ?_, fun z => absurd z (by decide +kernel)⟩
    walk_at "nf"
    refine ⟨d, rfl, ht, fun hall => ?_, fun x e hne => ?_⟩
    · refine ⟨"NoText", rfl, by simp [nsL], fun _ a dd hd => ?_, fun z => by simp [isaL] at z⟩
      walk_at "nf"
      refine ⟨rfl, rfl, rfl, "NoText", rfl, by simp [nsL], ?_⟩
      refine ⟨false, fun _ => ⟨rfl, rfl, rfl, "NoText", rfl, by simp [nsL], rfl, rfl⟩, fun z => absurd z (by simp [isaL]), fun _ => ?_⟩
      walk_at "nf"
      refine ⟨rfl, rfl, rfl, "NoText", rfl, by simp [nsL], ?_⟩
      exact ref fun x e => by rw [ans_m, hall x e]; rfl
    · have := tol x e (by rw [ans_m]; exact non_ne hne)
      rw [ans_m] at this
      exact this
  · refine ⟨.inl rfl, fun z => absurd z (by decide +kernel), fun _ => ?_⟩
    walk_at "nf"
    refine ⟨.inl rfl, fun z => absurd z (by decide +kernel), fun _ => ?_⟩
    walk_at "nf"
    refine ⟨d, rfl, ht, fun hall => ?_, fun x e hne => ?_⟩
    · refine ⟨"NoText", rfl, by simp [nsL], fun _ a dd hd => ?_, fun z => by simp [isaL] at z⟩
      walk_at "nf"
      refine ⟨rfl, rfl, rfl, "NoText", rfl, by simp [nsL], ?_⟩
      refine ⟨false, fun _ => ⟨rfl, rfl, rfl, "NoText", rfl, by simp [nsL], rfl, rfl⟩, fun z => absurd z (by simp [isaL]), fun _ => ?_⟩
      walk_at "nf"
      refine ⟨rfl, rfl, rfl, "NoText", rfl, by simp [nsL], ?_⟩
      exact ref fun x e => by rw [ans_d]; unfold dueD; rw [okD_f (hall x e)]; rfl
    · have e2 : dueD (Txt.split x " ") = (dinT (Txt.split x " ")).d := okD_t hne
      have := tol x e (by rw [ans_d, e2]; exact deed_non hne)
      rw [ans_d, e2] at this
      exact this
theorem ok_sign (Df : DefAt K mg "_law_sign" s_sign ["_law_bag_here"]) (B : Bt mg) (C_take : Callee P w K mg base 1 "_law_take" ["_law_bag_here", "_law_many"] [0] takeS) : Callee P w K mg base 2 "_law_sign" ["_law_bag_here"] [0] lsignS := by
  refine callee_of Df sc_sign (by decide) (by decide) fun f cdv A outer s H EX W hr hG tk hp => ?_
  refine ⟨_, (ss_cons (s_set 1 q_str sc_sign.nd)
      (ss_cons (s_set 2 q_str sc_sign.nd)
      (ss_one (s_ret (q_ix ((q_lst (a_cons (q_ix (p_nm 1) ((q_callC C_take tk (hr.mono (by decide)) hG (by rfl) (a_own 0 (a_cons (q_b1 c_len g_len (by rfl) B.len bt_len (p_nm 1)) a_nil)) [0])).p) (a_cons (q_ix (p_nm 2) ((q_callC C_take tk (hr.mono (by decide)) hG (by rfl) (a_own 0 (a_cons (q_b1 c_len g_len (by rfl) B.len bt_len (p_nm 2)) a_nil)) [0])).p) a_nil)))).p ((q_callC C_take tk (hr.mono (by decide)) hG (by rfl) (a_own 0 (a_cons q_int a_nil)) [0])).p))))), fun args Q E hl h => ?_⟩
  clear hl hr hG tk hp W EX H s outer A cdv f Df B C_take
  obtain ⟨t, rfl, hb, h⟩ := h
  walk_at "nf"
  refine ⟨szN (by decide +kernel), _, _, rfl, hb, by decide +kernel, by decide +kernel, fun v t1 v0 v1 hb1 => ?_⟩
  obtain ⟨c, ec, _⟩ := at_lt (ds := (" !\"#$&'()*+,-./0123456789:;<=>?@ABCDEFGHIJKLMNOPQRSTUVWXYZ[\\]^_`abcdefghijklmnopqrstuvwxyz{|}~\n" : Str).cps.toList) v0 v1
  refine ⟨szN (by decide +kernel), c, ec, ?_⟩
  walk_at "nf"
  refine ⟨szN (by decide +kernel), _, _, rfl, hb1, by decide +kernel, by decide +kernel, fun v2 t2 v20 v21 hb2 => ?_⟩
  obtain ⟨c2, ec2, _⟩ := at_lt (ds := ("0123456789./ /. 01" : Str).cps.toList) v20 v21
  refine ⟨szN (by decide +kernel), c2, ec2, ?_⟩
  walk_at "nf"
  refine ⟨_, _, rfl, hb2, by decide, by decide, fun v3 t3 v30 v31 hb3 => ?_⟩
  refine at_all (C := fun d => ∃ c : Nat, d = .str ⟨#[c]⟩) v30 v31 ?_ ?_
  · intro d hd
    simp at hd
    rcases hd with rfl | rfl <;> exact ⟨_, rfl⟩
  rintro _ ⟨c, rfl⟩
  exact h c _ hb3
theorem ok_spoilt (Df : DefAt K mg "_law_spoilt" s_spoilt ["_law_bag_here", "_law_text_here"]) (B : Bt mg) (C_take : Callee P w K mg base 1 "_law_take" ["_law_bag_here", "_law_many"] [0] takeS) (C_sign : Callee P w K mg base 2 "_law_sign" ["_law_bag_here"] [0] lsignS) : Callee P w K mg base 3 "_law_spoilt" ["_law_bag_here", "_law_text_here"] [0] lspoilS := by
  refine callee_of Df sc_spoilt (by decide) (by decide) fun f cdv A outer s H EX W hr hG tk hp => ?_
  refine ⟨_, (ss_cons (s_set 2 (q_mod ((q_bl_ (call_min2 rfl) g_min2 (by rfl) B.min bt_min (a_cons (q_callC C_take tk (hr.mono (by decide)) hG (by rfl) (a_own 0 (a_cons q_int a_nil)) [0]) (a_cons (q_callC C_take tk (hr.mono (by decide)) hG (by rfl) (a_own 0 (a_cons q_int a_nil)) [0]) a_nil)))).p (q_int).p) sc_spoilt.nd)
      (ss_cons (s_set 3 (q_ix ((q_lst (a_cons (q_callC C_take tk (hr.mono (by decide)) hG (by rfl) (a_own 0 (a_cons (q_add ((q_b1 c_len g_len (by rfl) B.len bt_len (p_nm 1))).p (q_int).p) a_nil)) [0]) (a_cons (q_b1 c_len g_len (by rfl) B.len bt_len (p_nm 1)) (a_cons q_int a_nil))))).p (p_nm 2)) sc_spoilt.nd)
      (ss_cons (s_set 4 (q_callC C_take tk (hr.mono (by decide)) hG (by rfl) (a_own 0 (a_cons q_int a_nil)) [0]) sc_spoilt.nd)
      (ss_cons (s_set 5 (q_callC C_sign tk (hr.mono (by decide)) hG (by rfl) (a_own 0 a_nil) [0]) sc_spoilt.nd)
      (ss_cons (s_if (t_eq (hu65 hr) (p_nm 4) (q_int).p) (ss_one (s_ret ((q_add ((q_add ((q_slice (p_nm 1) o_none (o_some (p_nm 3).val))).p (p_nm 5))).p ((q_slice (p_nm 1) (o_some (q_add (p_nm 3) (q_int).p)) o_none)).p)).fz)) ss_nil)
      (ss_cons (s_if (t_eq (hu65 hr) (p_nm 4) (q_int).p) (ss_one (s_ret ((q_add ((q_slice (p_nm 1) o_none (o_some (p_nm 3).val))).p ((q_slice (p_nm 1) (o_some (q_add (p_nm 3) (q_int).p)) o_none)).p)).fz)) ss_nil)
      (ss_cons (s_if (t_eq (hu65 hr) (p_nm 4) (q_int).p) (ss_one (s_ret ((q_add ((q_add ((q_slice (p_nm 1) o_none (o_some (p_nm 3).val))).p ((q_slice (p_nm 1) (o_some (p_nm 3).val) (o_some (q_add (p_nm 3) (q_int).p)))).p)).p ((q_slice (p_nm 1) (o_some (p_nm 3).val) o_none)).p)).fz)) ss_nil)
      (ss_cons (s_if (t_eq (hu65 hr) (p_nm 4) (q_int).p) (ss_cons (s_set 6 ((q_add ((q_slice (p_nm 1) (o_some (q_add (p_nm 3) (q_int).p)) (o_some (q_add (p_nm 3) (q_int).p)))).p ((q_slice (p_nm 1) (o_some (p_nm 3).val) (o_some (q_add (p_nm 3) (q_int).p)))).p)).fz sc_spoilt.nd)
      (ss_one (s_ret ((q_add ((q_add ((q_slice (p_nm 1) o_none (o_some (p_nm 3).val))).p (p_nm 6))).p ((q_slice (p_nm 1) (o_some (q_add (p_nm 3) (q_int).p)) o_none)).p)).fz))) ss_nil)
      (ss_one (s_ret ((q_add ((q_add ((q_slice (p_nm 1) o_none (o_some (p_nm 3).val))).p (p_nm 5))).p ((q_slice (p_nm 1) (o_some (p_nm 3).val) o_none)).p)).fz)))))))))), fun args Q E hl h => ?_⟩
  clear hl hr hG tk hp W EX H s outer A cdv f Df B C_take C_sign
  obtain ⟨n, t, x, rfl, hb, hx, hn, h⟩ := h
  walk_at "nf"
  have hz : x.length ≤ sizeLine := szN (by omega)
  have cl : ∀ {lo hi : Option Int}, (cutS x lo hi).length ≤ n := Nat.le_trans cut_len hx
  refine ⟨_, _, rfl, hb, by decide, by decide, fun v t1 v0 v1 hb1 => ?_⟩
  refine ⟨_, _, rfl, hb1, by decide, by decide, fun v2 t2 v20 v21 hb2 => ?_⟩
  refine ⟨show (0 : Int) < 3 by decide, ?_⟩
  walk_at "nf"
  refine ⟨hz, _, _, rfl, hb2, by omega, by omega, fun v3 t3 v30 v31 hb3 => ?_⟩
  refine ⟨hz, ?_⟩
  refine at_all (C := fun d => ∃ k : Int, d = .int k) (Int.emod_nonneg _ (by decide)) (Int.emod_lt_of_pos _ (by decide)) ?_ ?_
  · intro d hd
    simp at hd
    rcases hd with rfl | rfl | rfl <;> exact ⟨_, rfl⟩
  rintro _ ⟨k, rfl⟩
  walk_at "nf"
  refine ⟨_, _, rfl, hb3, by decide, by decide, fun v4 t4 v40 v41 hb4 => ?_⟩
  walk_at "nf"
  refine ⟨_, rfl, hb4, fun c t5 hb5 => ?_⟩
  walk_at "nf"
  have one : (⟨#[c]⟩ : Str).length = 1 := rfl
  have big : ∀ {m : Nat}, m ≤ 16777216 → m ≤ sizeLine := fun h => szN h
  have c1 := @cl none (some k)
  have c2 := @cl (some (k + 1)) none
  have c3 := @cl (some k) (some (k + 1))
  have c4 := @cl (some k) none
  have c5 := @cl (some (k + 1)) (some (k + 2))
  have c6 := @cl (some (k + 2)) none
  refine ⟨.inl rfl, fun z => ?_, fun z => ?_⟩
  · refine ⟨hz, big (by omega), hz, big (by rw [app_len]; omega), h _ _ (by rw [app_len, app_len]; omega) hb5⟩
  walk_at "nf"
  refine ⟨.inl rfl, fun z => ?_, fun z => ?_⟩
  · refine ⟨hz, hz, big (by omega), h _ _ (by rw [app_len]; omega) hb5⟩
  walk_at "nf"
  refine ⟨.inl rfl, fun z => ?_, fun z => ?_⟩
  · refine ⟨hz, hz, big (by omega), hz, big (by rw [app_len]; omega), h _ _ (by rw [app_len, app_len]; omega) hb5⟩
  walk_at "nf"
  refine ⟨.inl rfl, fun z => ?_, fun z => ?_⟩
  · walk_at "nf"
    refine ⟨hz, hz, big (by omega), ?_⟩
    walk_at "nf"
    refine ⟨hz, big (by rw [app_len]; omega), hz, big (by rw [app_len, app_len]; omega), h _ _ (by rw [app_len, app_len, app_len]; omega) hb5⟩
  walk_at "nf"
  refine ⟨hz, big (by omega), hz, big (by rw [app_len]; omega), h _ _ (by rw [app_len, app_len]; omega) hb5⟩
theorem ok_other_word (Df : DefAt K mg "_law_other_word" s_other_word ["_law_bag_here", "_law_text_here"]) (B : Bt mg) (C_take : Callee P w K mg base 1 "_law_take" ["_law_bag_here", "_law_many"] [0] takeS) : Callee P w K mg base 2 "_law_other_word" ["_law_bag_here", "_law_text_here"] [0] lotherS := by
  refine callee_of Df sc_other_word (by decide) (by decide) fun f cdv A outer s H EX W hr hG tk hp => ?_
  refine ⟨_, (ss_cons (s_set 2 ((q_split (p_nm 1).val (q_str).p)).fz sc_other_word.nd)
      (ss_cons (s_set 3 (q_callC C_take tk (hr.mono (by decide)) hG (by rfl) (a_own 0 (a_cons (q_b1 c_len g_len (by rfl) B.len bt_len (p_nm 2)) a_nil)) [0]) sc_other_word.nd)
      (ss_cons (s_set 4 ((q_lst (a_cons q_str (a_cons q_str (a_cons q_str (a_cons q_str (a_cons q_str (a_cons q_str (a_cons q_str (a_cons (q_mulS (q_str).p (q_int).p) (a_cons q_str (a_cons q_str (a_cons q_str (a_cons q_str a_nil)))))))))))))).fz sc_other_word.nd)
      (ss_cons (s_set 4 ((q_add (p_nm 4) ((q_lst (a_cons q_str (a_cons q_str (a_cons q_str (a_cons q_str (a_cons q_str (a_cons q_str (a_cons q_str (a_cons (q_add (q_str).p ((q_mulS (q_str).p (q_int).p)).p) (a_cons q_str (a_cons q_str (a_cons q_str a_nil))))))))))))).p)).fz sc_other_word.nd)
      (ss_cons (s_set 4 ((q_add (p_nm 4) ((q_lst (a_cons q_str (a_cons q_str a_nil)))).p)).fz sc_other_word.nd)
      (ss_cons (s_set 5 (q_callC C_take tk (hr.mono (by decide)) hG (by rfl) (a_own 0 (a_cons q_int a_nil)) [0]) sc_other_word.nd)
      (ss_cons (s_if (t_eq (hu65 hr) (p_nm 5) (q_int).p) (ss_one (s_ret (q_join q_str ((q_add ((q_slice (p_nm 2) o_none (o_some (p_nm 3).val))).p ((q_slice (p_nm 2) (o_some (q_add (p_nm 3) (q_int).p)) o_none)).p)).p))) ss_nil)
      (ss_cons (s_if (t_eq (hu65 hr) (p_nm 5) (q_int).p) (ss_one (s_ret (q_join q_str ((q_add ((q_add ((q_slice (p_nm 2) o_none (o_some (p_nm 3).val))).p ((q_lst (a_cons (q_ix (p_nm 2) (p_nm 3)) a_nil))).p)).p ((q_slice (p_nm 2) (o_some (p_nm 3).val) o_none)).p)).p))) ss_nil)
      (ss_cons (s_if (t_eq (hu65 hr) (p_nm 5) (q_int).p) (ss_one (s_ret (q_join q_str ((q_add ((q_add ((q_slice (p_nm 2) o_none (o_some (p_nm 3).val))).p ((q_lst (a_cons (q_ix (p_nm 4) ((q_callC C_take tk (hr.mono (by decide)) hG (by rfl) (a_own 0 (a_cons (q_b1 c_len g_len (by rfl) B.len bt_len (p_nm 4)) a_nil)) [0])).p) a_nil))).p)).p ((q_slice (p_nm 2) (o_some (p_nm 3).val) o_none)).p)).p))) ss_nil)
      (ss_one (s_ret (q_join q_str ((q_add ((q_add ((q_slice (p_nm 2) o_none (o_some (p_nm 3).val))).p ((q_lst (a_cons (q_ix (p_nm 4) ((q_callC C_take tk (hr.mono (by decide)) hG (by rfl) (a_own 0 (a_cons (q_b1 c_len g_len (by rfl) B.len bt_len (p_nm 4)) a_nil)) [0])).p) a_nil))).p)).p ((q_slice (p_nm 2) (o_some (q_add (p_nm 3) (q_int).p)) o_none)).p)).p)))))))))))), fun args Q E hl h => ?_⟩
  clear hl hr hG tk hp W EX H s outer A cdv f Df B C_take
  obtain ⟨n, t, x, rfl, hb, hx, hn, h⟩ := h
  walk_at "nf"
  refine ⟨_, rfl, by decide, by rw [sizeLine_eq]; omega, ?_⟩
  have hne : Txt.split x " " ≠ [] := split_ne
  have hs := sum_split (x := x) (y := " ")
  have hl : (Txt.split x " ").length ≤ 100002 := Nat.le_trans split_len (by omega)
  revert hne hs hl
  generalize Txt.split x " " = ws
  intro hne hs hl
  have hpos := List.length_pos_iff.mpr hne
  walk_at "nf"
  refine ⟨_, _, rfl, hb, by rw [List.length_map]; omega, by rw [List.length_map]; omega, fun v t1 v0 v1 hb1 => ?_⟩
  rw [List.length_map] at v1
  walk_at "nf"
  refine ⟨⟨by decide, by decide⟩, by decide +kernel, ?_⟩
  walk_at "nf"
  refine ⟨⟨by decide, by decide⟩, by decide +kernel, ?_⟩
  refine ⟨szN (by rw [repS_len]; decide +kernel), ?_⟩
  walk_at "nf"
  refine ⟨szN (by show (12 : Nat) + 11 ≤ _; decide), ?_⟩
  walk_at "nf"
  refine ⟨szN (by show (23 : Nat) + 2 ≤ _; decide), ?_⟩
  walk_at "nf"
  refine ⟨_, _, rfl, hb1, by decide, by decide, fun v2 t2 v20 v21 hb2 => ?_⟩
  walk_at "nf"
  have a1 := sumL_cut (ws := ws) (lo := none) (hi := some v)
  have a2 := sumL_cut (ws := ws) (lo := some (v + 1)) (hi := none)
  have a3 := sumL_cut (ws := ws) (lo := some v) (hi := none)
  have l1 := sumL_len (ws := cutL ws none (some v))
  have l2 := sumL_len (ws := cutL ws (some (v + 1)) none)
  have l3 := sumL_len (ws := cutL ws (some v) none)
  have fin : ∀ (us : List Str) (t' : T) (ds : List D), ds = us.map .str → sumL us ≤ 8 * n + 6000 → IsBag t' → joinG " " (.ow .lst ds) fun u => Q u [t'] := fun us t' ds e hu hb' =>
    join_jn (by omega) (h _ _ (Nat.le_trans (join_sum rfl us) hu) hb') (by rw [e]; rfl)
  have cm : ∀ {lo hi : Option Int}, (cutL (ws.map D.str) lo hi).length = (cutL ws lo hi).length := fun {lo hi} => by rw [cutL_map, List.length_map]
  refine ⟨.inl rfl, fun z => ?_, fun z => ?_⟩
  · refine ⟨szN (by rw [cm, cm]; omega), ?_⟩
    exact fin (cutL ws none (some v) ++ cutL ws (some (v + 1)) none) _ _ (by rw [cutL_map, cutL_map, List.map_append]) (by rw [sumL_app]; omega) hb2
  walk_at "nf"
  refine ⟨.inl rfl, fun z => ?_, fun z => ?_⟩
  · obtain ⟨y, ey, my⟩ := at_lt (ds := ws) v0 v1
    have ly := sumL_mem my
    refine ⟨_, at_map ey, ?_⟩
    refine ⟨szN (by rw [cm]; show _ + 1 ≤ _; omega), szN (by rw [List.length_append, cm, cm]; show _ + 1 + _ ≤ _; omega), ?_⟩
    exact fin (cutL ws none (some v) ++ [y] ++ cutL ws (some v) none) _ _ (by rw [cutL_map, cutL_map, List.map_append, List.map_append]; rfl) (by rw [sumL_app, sumL_app, sumL_cons]; show _ + (_ + 1 + 0) + _ ≤ _; omega) hb2
  have pick : ∀ {d : D}, d ∈ ([D.str "0", .str "25", .str "01", .str "1/25", .str "7.5", .str "7.1.1.1.1.1.1", .str "", .str (repS "9" (Int.toNat 60)), .str "draw", .str "1000001", .str "haul", .str "regive"] ++ [.str "1/1", .str "7", .str "0/1", .str "1.0", .str "7.1", .str "3", .str "1000000", .str (("1" : Str) ++ repS "0" (Int.toNat 5000)), .str "Draw", .str "lift", .str "24/24"] ++ [.str "25.1", .str "1/01"]) → ∃ y : Str, d = .str y ∧ y.length ≤ 5001 := by
    intro d hd
    simp only [List.mem_append, List.mem_cons, List.not_mem_nil, or_false] at hd
    rcases hd with ((rfl | rfl | rfl | rfl | rfl | rfl | rfl | rfl | rfl | rfl | rfl | rfl) | (rfl | rfl | rfl | rfl | rfl | rfl | rfl | rfl | rfl | rfl | rfl)) | (rfl | rfl) <;>
      refine ⟨_, rfl, ?_⟩ <;> first | decide +kernel | (rw [repS_len]; decide +kernel) | (rw [app_len, repS_len]; decide +kernel)
  walk_at "nf"
  refine ⟨.inl rfl, fun z => ?_, fun z => ?_⟩
  · refine ⟨_, _, rfl, hb2, by decide, by decide, fun v3 t3 v30 v31 hb3 => ?_⟩
    refine at_all (C := fun d => ∃ y : Str, d = .str y ∧ y.length ≤ 5001) v30 v31 (fun d hd => pick hd) ?_
    rintro _ ⟨y, rfl, ly⟩
    refine ⟨szN (by rw [cm]; show _ + 1 ≤ _; omega), szN (by rw [List.length_append, cm, cm]; show _ + 1 + _ ≤ _; omega), ?_⟩
    exact fin (cutL ws none (some v) ++ [y] ++ cutL ws (some v) none) _ _ (by rw [cutL_map, cutL_map, List.map_append, List.map_append]; rfl) (by rw [sumL_app, sumL_app, sumL_cons]; show _ + (_ + 1 + 0) + _ ≤ _; omega) hb3
  walk_at "nf"
  refine ⟨_, _, rfl, hb2, by decide, by decide, fun v3 t3 v30 v31 hb3 => ?_⟩
  refine at_all (C := fun d => ∃ y : Str, d = .str y ∧ y.length ≤ 5001) v30 v31 (fun d hd => pick hd) ?_
  rintro _ ⟨y, rfl, ly⟩
  refine ⟨szN (by rw [cm]; show _ + 1 ≤ _; omega), szN (by rw [List.length_append, cm, cm]; show _ + 1 + _ ≤ _; omega), ?_⟩
  exact fin (cutL ws none (some v) ++ [y] ++ cutL ws (some (v + 1)) none) _ _ (by rw [cutL_map, cutL_map, List.map_append, List.map_append]; rfl) (by rw [sumL_app, sumL_app, sumL_cons]; show _ + (_ + 1 + 0) + _ ≤ _; omega) hb3
theorem ok_text (Df : DefAt K mg "_law_text" s_text ["_law_bag_here"]) (B : Bt mg) (C_take : Callee P w K mg base 1 "_law_take" ["_law_bag_here", "_law_many"] [0] takeS) (C_deed_text : Callee P w K mg base 2 "_law_deed_text" ["_law_deed_here"] [] showDS) (C_dotted : Callee P w K mg base 1 "_law_dotted" ["_law_number_here"] [] showNS) (C_stroked : Callee P w K mg base 1 "_law_stroked" ["_law_mark_here"] [] showMS) (C_deed : Callee P w K mg base 4 "_law_deed" ["_law_bag_here"] [0] ldeedS) (C_number : Callee P w K mg base 2 "_law_number" ["_law_bag_here"] [0] lnumS) (C_mark : Callee P w K mg base 2 "_law_mark" ["_law_bag_here"] [0] lmarkS) (C_spoilt : Callee P w K mg base 3 "_law_spoilt" ["_law_bag_here", "_law_text_here"] [0] lspoilS) (C_other_word : Callee P w K mg base 2 "_law_other_word" ["_law_bag_here", "_law_text_here"] [0] lotherS) : Callee P w K mg base 5 "_law_text" ["_law_bag_here"] [0] ltextS := by
  refine callee_of Df sc_text (by decide) (by decide) fun f cdv A outer s H EX W hr hG tk hp => ?_
  refine ⟨_, (ss_cons (s_set 1 (q_callC C_take tk (hr.mono (by decide)) hG (by rfl) (a_own 0 (a_cons q_int a_nil)) [0]) sc_text.nd)
      (ss_cons (s_set 2 (q_ix ((q_lst (a_cons q_int (a_cons q_int (a_cons q_int (a_cons q_int a_nil)))))).p ((q_callC C_take tk (hr.mono (by decide)) hG (by rfl) (a_own 0 (a_cons q_int a_nil)) [0])).p) sc_text.nd)
      (ss_cons (s_set 3 (q_eq (hu65 hr) ((q_callC C_take tk (hr.mono (by decide)) hG (by rfl) (a_own 0 (a_cons q_int a_nil)) [0])).p (q_int).p) sc_text.nd)
      (ss_cons (s_set 4 (q_ix ((q_lst (a_cons (q_callC C_dotted tk (hr.mono (by decide)) hG (by rfl) (a_cons (q_callC C_number tk (hr.mono (by decide)) hG (by rfl) (a_own 0 a_nil) [0]) a_nil) []) (a_cons (q_callC C_stroked tk (hr.mono (by decide)) hG (by rfl) (a_cons (q_callC C_mark tk (hr.mono (by decide)) hG (by rfl) (a_own 0 a_nil) [0]) a_nil) []) a_nil)))).p ((q_mod (p_nm 1) (q_int).p)).p) sc_text.nd)
      (ss_cons (s_if (t_gt (p_nm 1) (q_int).p) (ss_one (s_set 4 (q_callC C_deed_text tk (hr.mono (by decide)) hG (by rfl) (a_cons (q_callC C_deed tk (hr.mono (by decide)) hG (by rfl) (a_own 0 a_nil) [0]) a_nil) []) sc_text.nd)) ss_nil)
      (ss_cons (s_for hp rfl (i_rng (by rfl) B.range (p_nm 2).val) (g_name 5 sc_text.nd) (ss_one (s_set 4 (q_ix ((q_lst (a_cons (q_callC C_spoilt tk (hr.mono (by decide)) hG (by rfl) (a_own 0 (a_cons (p_nm 4).val a_nil)) [0]) (a_cons (q_callC C_other_word tk (hr.mono (by decide)) hG (by rfl) (a_own 0 (a_cons (p_nm 4).val a_nil)) [0]) a_nil)))).p ((q_ty1 call_int1 g_int1 (by rfl) B.int bt_int (p_nm 3))).p) sc_text.nd)))
      (ss_one (s_ret (p_nm 4).val)))))))), fun args Q E hl h => ?_⟩
  clear hl hr hG tk hp W EX H s outer A cdv f Df B C_take C_deed_text C_dotted C_stroked C_deed C_number C_mark C_spoilt C_other_word
  obtain ⟨t, rfl, hb, h⟩ := h
  walk_at "nf"
  refine ⟨_, _, rfl, hb, by decide, by decide, fun v t1 v0 v1 hb1 => ?_⟩
  walk_at "nf"
  refine ⟨_, _, rfl, hb1, by decide, by decide, fun v2 t2 v20 v21 hb2 => ?_⟩
  refine at_all (C := fun d => ∃ n : Int, d = .int n ∧ 0 ≤ n ∧ n ≤ 2) v20 v21 ?_ ?_
  · intro d hd
    simp at hd
    rcases hd with rfl | rfl | rfl <;> exact ⟨_, rfl, by decide, by decide⟩
  rintro _ ⟨n, rfl, n0, n2⟩
  walk_at "nf"
  refine ⟨_, _, rfl, hb2, by decide, by decide, fun v3 t3 v30 v31 hb3 => ?_⟩
  refine ⟨.inl rfl, ?_⟩
  walk_at "nf"
  refine ⟨_, rfl, hb3, fun ns t4 hns hb4 => ?_⟩
  refine ⟨ns, rfl, hns, ?_⟩
  refine ⟨_, rfl, hb4, fun m t5 hm hb5 => ?_⟩
  refine ⟨m, rfl, hm, ?_⟩
  refine ⟨show (0 : Int) < 2 by decide, ?_⟩
  refine at_all (C := fun d => ∃ y : Str, d = .str y ∧ y.length ≤ 2401) (Int.emod_nonneg _ (by decide)) (Int.emod_lt_of_pos _ (by decide)) ?_ ?_
  · intro d hd
    simp at hd
    rcases hd with rfl | rfl
    · exact ⟨_, rfl, Nat.le_trans (dot_len hns) (by decide)⟩
    · exact ⟨_, rfl, Nat.le_trans (strk_len hm) (by decide)⟩
  rintro _ ⟨y, rfl, hy⟩
  walk_at "nf"
  have p1 : ∀ b : Bool, (0 : Int) ≤ if b = true then 1 else 0 := by intro b; cases b <;> decide
  have p2 : ∀ b : Bool, (if b = true then (1 : Int) else 0) < 2 := by intro b; cases b <;> decide
  refine ⟨fun z => ?_, fun z => ?_⟩
  · refine ⟨_, rfl, hb5, fun x t6 hx hb6 => ?_⟩
    refine ⟨x, rfl, hx, ?_⟩
    walk_at "nf"
    refine ⟨szI (by omega), by omega, ?_⟩
    refine .rng [0, 4, 5] (fun j vs => ∃ t y k, vs = [some t, some (.fz (.str y)), k] ∧ IsBag t ∧ y.length ≤ 207664 ∧ (j ≤ 1 → y.length ≤ 25208) ∧ (j = 0 → y.length ≤ 2401)) ⟨[_, _, _], rfl, _, _, _, rfl, hb6, Nat.le_trans (dd_len hx) (by decide), fun _ => Nat.le_trans (dd_len hx) (by decide), fun _ => dd_len hx⟩ ?_ ?_
    · rintro j vs hj ⟨t', y', k, rfl, hb7, hy7, h1, h0⟩
      walk_at "nf"
      obtain ⟨m', hm1, hm2, hm3⟩ : ∃ m' : Nat, y'.length ≤ m' ∧ m' ≤ 100000 ∧ 8 * m' + 6000 ≤ (if j = 0 then 25208 else 207664) := by
        by_cases e : j = 0
        · exact ⟨2401, h0 e, by decide, by rw [if_pos e]; decide⟩
        · exact ⟨25208, h1 (by omega), by decide, by rw [if_neg e]; decide⟩
      refine ⟨m', _, y', rfl, hb7, hm1, hm2, fun u t8 hu hb8 => ?_⟩
      refine ⟨m', _, y', rfl, hb8, hm1, hm2, fun u2 t9 hu2 hb9 => ?_⟩
      refine at_all (C := fun d => ∃ y : Str, d = .str y ∧ y.length ≤ (if j = 0 then 25208 else 207664)) ?_ ?_ ?_ ?_
      · exact p1 _
      · exact p2 _
      · intro d hd
        simp at hd
        rcases hd with rfl | rfl
        · exact ⟨_, rfl, Nat.le_trans hu hm3⟩
        · exact ⟨_, rfl, Nat.le_trans hu2 hm3⟩
      rintro _ ⟨y9, rfl, hy9⟩
      refine ⟨[_, _, _], rfl, _, _, _, rfl, hb9, ?_, ?_, ?_⟩
      · split at hy9 <;> omega
      · intro e
        rw [if_pos (by omega)] at hy9
        exact hy9
      · intro e
        omega
    · rintro vs ⟨t', y', k, rfl, hb7, hy7, _, _⟩
      exact h _ _ (Nat.le_trans hy7 (by decide)) hb7
  · refine ⟨szI (by omega), by omega, ?_⟩
    refine .rng [0, 4, 5] (fun j vs => ∃ t y k, vs = [some t, some (.fz (.str y)), k] ∧ IsBag t ∧ y.length ≤ 207664 ∧ (j ≤ 1 → y.length ≤ 25208) ∧ (j = 0 → y.length ≤ 2401)) ⟨[_, _, _], rfl, _, _, _, rfl, hb5, Nat.le_trans hy (by decide), fun _ => Nat.le_trans hy (by decide), fun _ => hy⟩ ?_ ?_
    · rintro j vs hj ⟨t', y', k, rfl, hb7, hy7, h1, h0⟩
      walk_at "nf"
      obtain ⟨m', hm1, hm2, hm3⟩ : ∃ m' : Nat, y'.length ≤ m' ∧ m' ≤ 100000 ∧ 8 * m' + 6000 ≤ (if j = 0 then 25208 else 207664) := by
        by_cases e : j = 0
        · exact ⟨2401, h0 e, by decide, by rw [if_pos e]; decide⟩
        · exact ⟨25208, h1 (by omega), by decide, by rw [if_neg e]; decide⟩
      refine ⟨m', _, y', rfl, hb7, hm1, hm2, fun u t8 hu hb8 => ?_⟩
      refine ⟨m', _, y', rfl, hb8, hm1, hm2, fun u2 t9 hu2 hb9 => ?_⟩
      refine at_all (C := fun d => ∃ y : Str, d = .str y ∧ y.length ≤ (if j = 0 then 25208 else 207664)) ?_ ?_ ?_ ?_
      · exact p1 _
      · exact p2 _
      · intro d hd
        simp at hd
        rcases hd with rfl | rfl
        · exact ⟨_, rfl, Nat.le_trans hu hm3⟩
        · exact ⟨_, rfl, Nat.le_trans hu2 hm3⟩
      rintro _ ⟨y9, rfl, hy9⟩
      refine ⟨[_, _, _], rfl, _, _, _, rfl, hb9, ?_, ?_, ?_⟩
      · split at hy9 <;> omega
      · intro e
        rw [if_pos (by omega)] at hy9
        exact hy9
      · intro e
        omega
    · rintro vs ⟨t', y', k, rfl, hb7, hy7, _, _⟩
      exact h _ _ (Nat.le_trans hy7 (by decide)) hb7
theorem ok_edges (Df : DefAt K mg "_law_edges" s_edges []) : Callee P w K mg base 1 "_law_edges" [] [] ledgeS := by
  refine callee_of Df sc_edges (by decide) (by decide) fun f cdv A outer s H EX W hr hG tk hp => ?_
  refine ⟨_, (ss_cons (s_set 0 (q_lst (a_cons q_str (a_cons q_str (a_cons q_str (a_cons q_str (a_cons q_str (a_cons q_str (a_cons q_str (a_cons q_str (a_cons q_str (a_cons q_str (a_cons q_str (a_cons q_str a_nil))))))))))))) sc_edges.nd)
      (ss_cons (s_set 0 (q_add (p_nm 0) ((q_lst (a_cons q_str (a_cons q_str (a_cons q_str (a_cons q_str (a_cons q_str (a_cons q_str a_nil)))))))).p) sc_edges.nd)
      (ss_cons (s_set 0 (q_add (p_nm 0) ((q_lst (a_cons q_str (a_cons q_str (a_cons q_str (a_cons q_str (a_cons q_str (a_cons q_str (a_cons q_str a_nil))))))))).p) sc_edges.nd)
      (ss_cons (s_expr (q_append 0 (a_cons (q_add (q_str).p ((q_mulS (q_str).p (q_int).p)).p) a_nil)))
      (ss_one (s_ret ((q_add (p_nm 0) ((q_lst (a_cons (q_add (q_str).p ((q_mulS (q_str).p (q_int).p)).p) (a_cons q_str (a_cons q_str (a_cons q_str (a_cons q_str a_nil))))))).p)).fz)))))), fun args Q E hl h => ?_⟩
  clear hl hr hG tk hp W EX H s outer A cdv f Df
  obtain ⟨rfl, h⟩ := h
  walk_at "nf"
  refine ⟨szN (by show (12 : Nat) + 6 ≤ _; decide), ?_⟩
  walk_at "nf"
  refine ⟨szN (by show (18 : Nat) + 7 ≤ _; decide), ?_⟩
  walk_at "nf"
  refine ⟨rfl, ⟨by decide, by decide⟩, by decide +kernel, szN (by rw [repS_len]; decide +kernel), szL (by show (25 : Nat) + 1 ≤ _; decide), ?_⟩
  walk_at "nf"
  refine ⟨⟨by decide, by decide⟩, by decide +kernel, szN (by rw [repS_len]; decide +kernel), ?_⟩
  refine ⟨szN (by show (26 : Nat) + 5 ≤ _; decide), ?_⟩
  refine h ["24.4.4.4.4.4", "25", "24.5", "0", "1.0", "24.4.4.4.4.4.4", "24/24", "25/1", "1/25", "0/1", "1/0", "1/1/1", "crack 7 2 1000000", "crack 7 2 1000001", "crack 7 3 5", "crack 7 0 0", "crack 7 0 1", "lay 24/24", "haul 1/1 1/2 1/3", "haul 24/24 1/1", "haul", "regive", "regive 7 1/1 8", "leave 25/1", "draw 25", "regive" ++ repS " 7 1/1" (Int.toNat 24), "regive" ++ repS " 7 1/1" (Int.toNat 25), "give 24.4 24/24 1/1", "give 1/1 7", "draw 1/1", "lift 7.1"] (by decide) ?_
  intro x hx
  simp only [List.mem_cons, List.not_mem_nil, or_false] at hx
  rcases hx with rfl | rfl | rfl | rfl | rfl | rfl | rfl | rfl | rfl | rfl | rfl | rfl | rfl | rfl | rfl | rfl | rfl | rfl | rfl | rfl | rfl | rfl | rfl | rfl | rfl | rfl | rfl | rfl | rfl | rfl | rfl <;> first | (show Str.length _ ≤ _; rw [app_len, repS_len]; decide +kernel) | (show Str.length _ ≤ _; decide +kernel)
theorem ok_law (Df : DefAt K mg "law" s_law ["_law_script"]) (B : Bt mg) (C_bag : Callee P w K mg base 1 "_law_bag" ["_law_script"] [] bagS) (C_edges : Callee P w K mg base 1 "_law_edges" [] [] ledgeS) (C_text : Callee P w K mg base 5 "_law_text" ["_law_bag_here"] [0] ltextS) (C_alike : Callee P w K mg base 1 "_law_alike" ["_law_found", "_law_due_here"] [] alikeS) (C_told : Callee P w K mg base 10 "_law_told" ["_law_word", "_law_text_here"] [] ltoldS) (C_due : Callee P w K mg base 5 "_law_due" ["_law_word", "_law_text_here"] [] ldueS) : Callee P w K mg base 11 "law" ["_law_script"] [] (lawS 63) := by
  refine callee_of Df sc_law (by decide) (by decide) fun f cdv A outer s H EX W hr hG tk hp => ?_
  refine ⟨_, (ss_cons (s_set 1 (q_callC C_bag tk (hr.mono (by decide)) hG (by rfl) (a_cons (p_nm 0).val a_nil) []) sc_law.nd)
      (ss_cons (s_set 2 ((q_add ((q_add ((q_lc (own := [("_law_k", 3)]) rfl sc_law.nd (i_rng (by rfl) B.range q_int) (blkOk_by (by rfl)) (fun _ _ _ _ _ => (g_name 3 sc_law.nd)) (fun _ _ _ _ _ => ts_nil) (fun _ _ _ _ _ => (q_callC C_text takes0 (hr.mono (by decide)) hG (by rfl) (a_own 1 a_nil) [1])))).p ((q_lst (a_cons q_str (a_cons q_str (a_cons q_str (a_cons q_str (a_cons q_str a_nil))))))).p)).p ((q_callC0 C_edges tk (hr.mono (by decide)) hG (by rfl))).p)).fz sc_law.nd)
      (ss_cons (s_for hp rfl (i_rng (by rfl) B.range q_int) (g_name 4 sc_law.nd) (ss_one (s_for hp rfl (i_list (p_nm 2).val) (g_name 5 sc_law.nd) (ss_one (s_for hp rfl (i_list (q_ix ((q_lst (a_cons ((q_lst (a_cons q_str (a_cons q_str (a_cons q_str a_nil))))).fz (a_cons ((q_lst (a_cons q_str (a_cons q_str (a_cons q_str a_nil))))).fz a_nil)))).p (p_nm 4))) (g_name 6 sc_law.nd) (ss_one (s_if (t_not (t_val (q_callC C_alike tk (hr.mono (by decide)) hG (by rfl) (a_cons (q_callC C_told tk (hr.mono (by decide)) hG (by rfl) (a_cons (p_nm 6).val (a_cons (p_nm 5).val a_nil)) []) (a_cons (q_callC C_due tk (hr.mono (by decide)) hG (by rfl) (a_cons (p_nm 6).val (a_cons (p_nm 5).val a_nil)) []) a_nil)) []))) (ss_one (s_ret q_bl)) ss_nil)))))))
      (ss_cons (s_for hp rfl (i_list ((q_lst (a_cons q_non (a_cons q_int (a_cons q_bl (a_cons ((q_lst (a_cons q_str a_nil))).fz (a_cons (q_tup (a_cons q_str a_nil)) (a_cons (q_tup (a_cons q_int a_nil)) (a_cons (q_dict0).fz (a_cons ((q_lst a_nil)).fz (a_cons (q_tup (a_cons q_str (a_cons (q_tup (a_cons q_int a_nil)) a_nil))) (a_cons (q_tup (a_cons q_int (a_cons q_int a_nil))) a_nil)))))))))))).fz) (g_name 7 sc_law.nd) (ss_one (s_for hp rfl (i_list ((q_lst (a_cons q_str (a_cons q_str (a_cons q_str a_nil))))).fz) (g_name 6 sc_law.nd) (ss_one (s_if (t_not (t_val (q_callC C_alike tk (hr.mono (by decide)) hG (by rfl) (a_cons (q_callC C_told tk (hr.mono (by decide)) hG (by rfl) (a_cons (p_nm 6).val (a_cons (p_nm 7).val a_nil)) []) (a_cons (q_tup (a_cons q_str (a_cons q_bl a_nil))) a_nil)) []))) (ss_one (s_ret q_bl)) ss_nil)))))
      (ss_one (s_ret q_bl)))))), fun args Q E hl h => ?_⟩
  clear hl hr hG tk hp W EX H s outer A cdv f Df B C_bag C_edges C_text C_alike C_told C_due
  obtain ⟨ns, rfl, hn, h⟩ := h
  walk_at "nf"
  refine ⟨ns, rfl, hn, fun t hb => ?_⟩
  walk_at "nf"
  refine ⟨szI (by decide), by decide, ?_⟩
  refine .fr [1, 2] (fun j acc vs => ∃ t' xs a, acc = xs.map D.str ∧ vs = [some t', a] ∧ IsBag t' ∧ xs.length = j ∧ ∀ x : Str, x ∈ xs → shT x) ⟨[_, _], rfl, _, [], _, rfl, rfl, hb, rfl, by simp⟩ ?_ ?_
  · rintro j d acc vs hd ⟨t', xs, a, rfl, rfl, hb', hl, hx⟩
    refine ⟨fun _ => ?_, fun z => nomatch z⟩
    refine ⟨_, rfl, hb', fun y t2 hy hb2 => ?_⟩
    refine ⟨[_, _], rfl, t2, xs ++ [y], _, by rw [List.map_append]; rfl, rfl, hb2, by rw [List.length_append, hl]; rfl, fun z q => by
      rcases List.mem_append.mp q with q | q
      · exact hx z q
      · simp at q; subst q; exact hy⟩
  rintro acc vs ⟨t', xs, a, rfl, rfl, hb', hl, hx⟩
  have hl2 : xs.length = 20 := hl
  refine ⟨szN (by rw [List.length_map, hl2]; decide), rfl, fun ws hw hx2 => ⟨szN (by rw [List.length_append, List.length_map, List.length_map, hl2]; show 20 + 5 + _ ≤ _; omega), ?_⟩⟩
  obtain ⟨us, eu, hus⟩ : ∃ us : List Str, xs.map D.str ++ [D.str "", .str " ", .str "\n", .str "draw", .str "haul 1/1 1/1"] ++ ws.map D.str = us.map D.str ∧ ∀ x, x ∈ us → shT x := by
    refine ⟨xs ++ (["", " ", "\n", "draw", "haul 1/1 1/1"] : List Str) ++ ws, by simp, fun x q => ?_⟩
    rcases List.mem_append.mp q with q | q
    · rcases List.mem_append.mp q with q | q
      · exact hx x q
      · simp only [List.mem_cons, List.not_mem_nil, or_false] at q
        rcases q with rfl | rfl | rfl | rfl | rfl <;> (show Str.length _ ≤ _; decide +kernel)
    · exact hx2 x q
  rw [eu]
  walk_at "nf"
  refine ⟨szI (by decide), by decide, ?_⟩
  refine .rng [4, 5, 6] (fun j vs => ∃ a b c, vs = [a, b, c]) ⟨[_, _, _], rfl, _, _, _, rfl⟩ ?_ ?_
  · rintro j vs hj ⟨a, b, c, rfl⟩
    walk_at "nf"
    refine .over us D.str rfl [5, 6] (fun j vs => ∃ b c, vs = [b, c]) ⟨[_, _], rfl, _, _, rfl⟩ ?_ ?_
    · rintro j2 x vs hj2 ⟨b, c, rfl⟩
      have hxs := hus x (List.mem_of_getElem? hj2)
      walk_at "nf"
      refine at_all (C := fun d => ∃ wl : List Str, d = .nd .lst (wl.map .str) ∧ ∀ w, w ∈ wl → w ∈ wsL) (by omega) (by show (0 : Int) + (j : Nat) < 2; omega) ?_ ?_
      · intro d hd
        simp at hd
        rcases hd with rfl | rfl
        · exact ⟨["number", "mark", "deed"], rfl, by simp [wsL]⟩
        · exact ⟨["deed", "mark", "number"], rfl, by simp [wsL]⟩
      rintro _ ⟨wl, rfl, hwl⟩
      refine .over wl D.str rfl [6] (fun j vs => ∃ c, vs = [c]) ⟨[_], rfl, _, rfl⟩ ?_ ?_
      · rintro j3 w vs hj3 ⟨c, rfl⟩
        have hw := hwl w (List.mem_of_getElem? hj3)
        walk_at "nf"
        obtain ⟨p1, p2⟩ := sml_al (sml_ans (d := .str x) hw) (by decide)
        refine ⟨w, .str x, rfl, hw, .inl ⟨x, rfl, hxs⟩, w, x, rfl, hw, hxs, ?_⟩
        refine ⟨_, rfl, p1, p2, fun z => (nomatch z), fun _ => ?_⟩
        exact ⟨[_], rfl, _, rfl⟩
      · rintro vs ⟨c, rfl⟩
        exact ⟨[_, _], rfl, _, _, rfl⟩
    · rintro vs ⟨b, c, rfl⟩
      exact ⟨[_, _, _], rfl, _, _, _, rfl⟩
  rintro vs ⟨a, b, c, rfl⟩
  refine .fr [7, 6] (fun j vs => ∃ a b, vs = [a, b]) ⟨[_, _], rfl, _, _, rfl⟩ ?_ ?_
  · rintro j d vs hd ⟨a, b, rfl⟩
    obtain ⟨hd1, hd2⟩ : (∀ x, d ≠ .str x) ∧ tyD d = true := by
      have hm := List.mem_of_getElem? hd
      simp only [id, List.mem_cons, List.not_mem_nil, or_false] at hm
      rcases hm with rfl | rfl | rfl | rfl | rfl | rfl | rfl | rfl | rfl | rfl <;> exact ⟨fun x e => (nomatch e), rfl⟩
    walk_at "nf"
    refine .over (["mark", "number", "deed"] : List Str) D.str rfl [6] (fun j vs => ∃ c, vs = [c]) ⟨[_], rfl, _, rfl⟩ ?_ ?_
    · rintro j3 w vs hj3 ⟨c, rfl⟩
      have hw : w ∈ wsL := by
        have := List.mem_of_getElem? hj3
        simp only [List.mem_cons, List.not_mem_nil, or_false] at this
        rcases this with rfl | rfl | rfl <;> simp [wsL]
      walk_at "nf"
      have er : ansD w d = refD := ans_ref fun x e => absurd e (hd1 x)
      obtain ⟨p1, p2⟩ := sml_al sml_ref (by decide)
      refine ⟨w, d, rfl, hw, .inr ⟨hd1, hd2⟩, ?_⟩
      rw [er]
      refine ⟨_, rfl, p1, p2, fun z => (nomatch z), fun _ => ?_⟩
      exact ⟨[_], rfl, _, rfl⟩
    · rintro vs ⟨c, rfl⟩
      exact ⟨[_, _], rfl, _, _, rfl⟩
  · rintro vs ⟨a, b, rfl⟩
    exact h

end
theorem all_mk {P : Program} {w : World} {K : PySem.W.Frag} {h : Heap} {mg : Str → Option Value} (X : K.In h) (G : h.Ns mainGlobals mg) (base : Heap)
    {f0 : Addr} {od0 an0 : Option Addr} {sl0 : Array (Option Value)} {oc0 kV0 dc0 pm0 cd0 ct0 : Value}
    {f1 : Addr} {od1 an1 : Option Addr} {sl1 : Array (Option Value)} {oc1 kV1 dc1 pm1 cd1 ct1 : Value}
    {f2 : Addr} {od2 an2 : Option Addr} {sl2 : Array (Option Value)} {oc2 kV2 dc2 pm2 cd2 ct2 : Value}
    {f3 : Addr} {od3 an3 : Option Addr} {sl3 : Array (Option Value)} {oc3 kV3 dc3 pm3 cd3 ct3 : Value}
    {f4 : Addr} {od4 an4 : Option Addr} {sl4 : Array (Option Value)} {oc4 kV4 dc4 pm4 cd4 ct4 : Value}
    {f5 : Addr} {od5 an5 : Option Addr} {sl5 : Array (Option Value)} {oc5 kV5 dc5 pm5 cd5 ct5 : Value}
    {f6 : Addr} {od6 an6 : Option Addr} {sl6 : Array (Option Value)} {oc6 kV6 dc6 pm6 cd6 ct6 : Value}
    {f7 : Addr} {od7 an7 : Option Addr} {sl7 : Array (Option Value)} {oc7 kV7 dc7 pm7 cd7 ct7 : Value}
    {f8 : Addr} {od8 an8 : Option Addr} {sl8 : Array (Option Value)} {oc8 kV8 dc8 pm8 cd8 ct8 : Value}
    {f9 : Addr} {od9 an9 : Option Addr} {sl9 : Array (Option Value)} {oc9 kV9 dc9 pm9 cd9 ct9 : Value}
    {f10 : Addr} {od10 an10 : Option Addr} {sl10 : Array (Option Value)} {oc10 kV10 dc10 pm10 cd10 ct10 : Value}
    {f11 : Addr} {od11 an11 : Option Addr} {sl11 : Array (Option Value)} {oc11 kV11 dc11 pm11 cd11 ct11 : Value}
    {f12 : Addr} {od12 an12 : Option Addr} {sl12 : Array (Option Value)} {oc12 kV12 dc12 pm12 cd12 ct12 : Value}
    {f13 : Addr} {od13 an13 : Option Addr} {sl13 : Array (Option Value)} {oc13 kV13 dc13 pm13 cd13 ct13 : Value}
    {f14 : Addr} {od14 an14 : Option Addr} {sl14 : Array (Option Value)} {oc14 kV14 dc14 pm14 cd14 ct14 : Value}
    {f15 : Addr} {od15 an15 : Option Addr} {sl15 : Array (Option Value)} {oc15 kV15 dc15 pm15 cd15 ct15 : Value}
    {f16 : Addr} {od16 an16 : Option Addr} {sl16 : Array (Option Value)} {oc16 kV16 dc16 pm16 cd16 ct16 : Value}
    {f17 : Addr} {od17 an17 : Option Addr} {sl17 : Array (Option Value)} {oc17 kV17 dc17 pm17 cd17 ct17 : Value}
    {f18 : Addr} {od18 an18 : Option Addr} {sl18 : Array (Option Value)} {oc18 kV18 dc18 pm18 cd18 ct18 : Value}
    {f19 : Addr} {od19 an19 : Option Addr} {sl19 : Array (Option Value)} {oc19 kV19 dc19 pm19 cd19 ct19 : Value}
    {f20 : Addr} {od20 an20 : Option Addr} {sl20 : Array (Option Value)} {oc20 kV20 dc20 pm20 cd20 ct20 : Value}
    {f21 : Addr} {od21 an21 : Option Addr} {sl21 : Array (Option Value)} {oc21 kV21 dc21 pm21 cd21 ct21 : Value}
    {f22 : Addr} {od22 an22 : Option Addr} {sl22 : Array (Option Value)} {oc22 kV22 dc22 pm22 cd22 ct22 : Value}
    {f23 : Addr} {od23 an23 : Option Addr} {sl23 : Array (Option Value)} {oc23 kV23 dc23 pm23 cd23 ct23 : Value}
    {f24 : Addr} {od24 an24 : Option Addr} {sl24 : Array (Option Value)} {oc24 kV24 dc24 pm24 cd24 ct24 : Value}
    {f25 : Addr} {od25 an25 : Option Addr} {sl25 : Array (Option Value)} {oc25 kV25 dc25 pm25 cd25 ct25 : Value}
    {f26 : Addr} {od26 an26 : Option Addr} {sl26 : Array (Option Value)} {oc26 kV26 dc26 pm26 cd26 ct26 : Value}
    {f27 : Addr} {od27 an27 : Option Addr} {sl27 : Array (Option Value)} {oc27 kV27 dc27 pm27 cd27 ct27 : Value}
    {f28 : Addr} {od28 an28 : Option Addr} {sl28 : Array (Option Value)} {oc28 kV28 dc28 pm28 cd28 ct28 : Value}
    {f29 : Addr} {od29 an29 : Option Addr} {sl29 : Array (Option Value)} {oc29 kV29 dc29 pm29 cd29 ct29 : Value}
    {f30 : Addr} {od30 an30 : Option Addr} {sl30 : Array (Option Value)} {oc30 kV30 dc30 pm30 cd30 ct30 : Value}
    {f31 : Addr} {od31 an31 : Option Addr} {sl31 : Array (Option Value)} {oc31 kV31 dc31 pm31 cd31 ct31 : Value}
    {f32 : Addr} {od32 an32 : Option Addr} {sl32 : Array (Option Value)} {oc32 kV32 dc32 pm32 cd32 ct32 : Value}
    {f33 : Addr} {od33 an33 : Option Addr} {sl33 : Array (Option Value)} {oc33 kV33 dc33 pm33 cd33 ct33 : Value}
    {f34 : Addr} {od34 an34 : Option Addr} {sl34 : Array (Option Value)} {oc34 kV34 dc34 pm34 cd34 ct34 : Value}
    {f35 : Addr} {od35 an35 : Option Addr} {sl35 : Array (Option Value)} {oc35 kV35 dc35 pm35 cd35 ct35 : Value}
    {f36 : Addr} {od36 an36 : Option Addr} {sl36 : Array (Option Value)} {oc36 kV36 dc36 pm36 cd36 ct36 : Value}
    {f37 : Addr} {od37 an37 : Option Addr} {sl37 : Array (Option Value)} {oc37 kV37 dc37 pm37 cd37 ct37 : Value}
    {f38 : Addr} {od38 an38 : Option Addr} {sl38 : Array (Option Value)} {oc38 kV38 dc38 pm38 cd38 ct38 : Value}
    {f39 : Addr} {od39 an39 : Option Addr} {sl39 : Array (Option Value)} {oc39 kV39 dc39 pm39 cd39 ct39 : Value}
    {f40 : Addr} {od40 an40 : Option Addr} {sl40 : Array (Option Value)} {oc40 kV40 dc40 pm40 cd40 ct40 : Value}
    {f41 : Addr} {od41 an41 : Option Addr} {sl41 : Array (Option Value)} {oc41 kV41 dc41 pm41 cd41 ct41 : Value}
    (a0 : PySem.W.nsIn K mainGlobals "is_whole" = some (some (.ref f0))) (l0 : K.lookup f0 = some ⟨oc0, od0, .func (PySem.W.fnOf "is_whole" "is_whole" (defArgs s_is_whole) (defBody s_is_whole) (defScope s_is_whole) .none kV0 dc0 pm0 an0 cd0 ct0), sl0⟩) (c0 : PySem.W.codeIn K cd0 "is_whole" = true) (k0 : PySem.W.keepIn K (.ref f0) = true)
    (a1 : PySem.W.nsIn K mainGlobals "is_between" = some (some (.ref f1))) (l1 : K.lookup f1 = some ⟨oc1, od1, .func (PySem.W.fnOf "is_between" "is_between" (defArgs s_is_between) (defBody s_is_between) (defScope s_is_between) .none kV1 dc1 pm1 an1 cd1 ct1), sl1⟩) (c1 : PySem.W.codeIn K cd1 "is_between" = true) (k1 : PySem.W.keepIn K (.ref f1) = true)
    (a2 : PySem.W.nsIn K mainGlobals "are_between" = some (some (.ref f2))) (l2 : K.lookup f2 = some ⟨oc2, od2, .func (PySem.W.fnOf "are_between" "are_between" (defArgs s_are_between) (defBody s_are_between) (defScope s_are_between) .none kV2 dc2 pm2 an2 cd2 ct2), sl2⟩) (c2 : PySem.W.codeIn K cd2 "are_between" = true) (k2 : PySem.W.keepIn K (.ref f2) = true)
    (a3 : PySem.W.nsIn K mainGlobals "is_measure" = some (some (.ref f3))) (l3 : K.lookup f3 = some ⟨oc3, od3, .func (PySem.W.fnOf "is_measure" "is_measure" (defArgs s_is_measure) (defBody s_is_measure) (defScope s_is_measure) .none kV3 dc3 pm3 an3 cd3 ct3), sl3⟩) (c3 : PySem.W.codeIn K cd3 "is_measure" = true) (k3 : PySem.W.keepIn K (.ref f3) = true)
    (a4 : PySem.W.nsIn K mainGlobals "is_number" = some (some (.ref f4))) (l4 : K.lookup f4 = some ⟨oc4, od4, .func (PySem.W.fnOf "is_number" "is_number" (defArgs s_is_number) (defBody s_is_number) (defScope s_is_number) .none kV4 dc4 pm4 an4 cd4 ct4), sl4⟩) (c4 : PySem.W.codeIn K cd4 "is_number" = true) (k4 : PySem.W.keepIn K (.ref f4) = true)
    (a5 : PySem.W.nsIn K mainGlobals "is_mark" = some (some (.ref f5))) (l5 : K.lookup f5 = some ⟨oc5, od5, .func (PySem.W.fnOf "is_mark" "is_mark" (defArgs s_is_mark) (defBody s_is_mark) (defScope s_is_mark) .none kV5 dc5 pm5 an5 cd5 ct5), sl5⟩) (c5 : PySem.W.codeIn K cd5 "is_mark" = true) (k5 : PySem.W.keepIn K (.ref f5) = true)
    (a6 : PySem.W.nsIn K mainGlobals "is_pair" = some (some (.ref f6))) (l6 : K.lookup f6 = some ⟨oc6, od6, .func (PySem.W.fnOf "is_pair" "is_pair" (defArgs s_is_pair) (defBody s_is_pair) (defScope s_is_pair) .none kV6 dc6 pm6 an6 cd6 ct6), sl6⟩) (c6 : PySem.W.codeIn K cd6 "is_pair" = true) (k6 : PySem.W.keepIn K (.ref f6) = true)
    (a7 : PySem.W.nsIn K mainGlobals "are_pairs" = some (some (.ref f7))) (l7 : K.lookup f7 = some ⟨oc7, od7, .func (PySem.W.fnOf "are_pairs" "are_pairs" (defArgs s_are_pairs) (defBody s_are_pairs) (defScope s_are_pairs) .none kV7 dc7 pm7 an7 cd7 ct7), sl7⟩) (c7 : PySem.W.codeIn K cd7 "are_pairs" = true) (k7 : PySem.W.keepIn K (.ref f7) = true)
    (a8 : PySem.W.nsIn K mainGlobals "are_hauled" = some (some (.ref f8))) (l8 : K.lookup f8 = some ⟨oc8, od8, .func (PySem.W.fnOf "are_hauled" "are_hauled" (defArgs s_are_hauled) (defBody s_are_hauled) (defScope s_are_hauled) .none kV8 dc8 pm8 an8 cd8 ct8), sl8⟩) (c8 : PySem.W.codeIn K cd8 "are_hauled" = true) (k8 : PySem.W.keepIn K (.ref f8) = true)
    (a9 : PySem.W.nsIn K mainGlobals "is_made" = some (some (.ref f9))) (l9 : K.lookup f9 = some ⟨oc9, od9, .func (PySem.W.fnOf "is_made" "is_made" (defArgs s_is_made) (defBody s_is_made) (defScope s_is_made) .none kV9 dc9 pm9 an9 cd9 ct9), sl9⟩) (c9 : PySem.W.codeIn K cd9 "is_made" = true) (k9 : PySem.W.keepIn K (.ref f9) = true)
    (a10 : PySem.W.nsIn K mainGlobals "is_deed" = some (some (.ref f10))) (l10 : K.lookup f10 = some ⟨oc10, od10, .func (PySem.W.fnOf "is_deed" "is_deed" (defArgs s_is_deed) (defBody s_is_deed) (defScope s_is_deed) .none kV10 dc10 pm10 an10 cd10 ct10), sl10⟩) (c10 : PySem.W.codeIn K cd10 "is_deed" = true) (k10 : PySem.W.keepIn K (.ref f10) = true)
    (a11 : PySem.W.nsIn K mainGlobals "whole_in" = some (some (.ref f11))) (l11 : K.lookup f11 = some ⟨oc11, od11, .func (PySem.W.fnOf "whole_in" "whole_in" (defArgs s_whole_in) (defBody s_whole_in) (defScope s_whole_in) .none kV11 dc11 pm11 an11 cd11 ct11), sl11⟩) (c11 : PySem.W.codeIn K cd11 "whole_in" = true) (k11 : PySem.W.keepIn K (.ref f11) = true)
    (a12 : PySem.W.nsIn K mainGlobals "number_in" = some (some (.ref f12))) (l12 : K.lookup f12 = some ⟨oc12, od12, .func (PySem.W.fnOf "number_in" "number_in" (defArgs s_number_in) (defBody s_number_in) (defScope s_number_in) .none kV12 dc12 pm12 an12 cd12 ct12), sl12⟩) (c12 : PySem.W.codeIn K cd12 "number_in" = true) (k12 : PySem.W.keepIn K (.ref f12) = true)
    (a13 : PySem.W.nsIn K mainGlobals "mark_in" = some (some (.ref f13))) (l13 : K.lookup f13 = some ⟨oc13, od13, .func (PySem.W.fnOf "mark_in" "mark_in" (defArgs s_mark_in) (defBody s_mark_in) (defScope s_mark_in) .none kV13 dc13 pm13 an13 cd13 ct13), sl13⟩) (c13 : PySem.W.codeIn K cd13 "mark_in" = true) (k13 : PySem.W.keepIn K (.ref f13) = true)
    (a14 : PySem.W.nsIn K mainGlobals "pairs_in" = some (some (.ref f14))) (l14 : K.lookup f14 = some ⟨oc14, od14, .func (PySem.W.fnOf "pairs_in" "pairs_in" (defArgs s_pairs_in) (defBody s_pairs_in) (defScope s_pairs_in) .none kV14 dc14 pm14 an14 cd14 ct14), sl14⟩) (c14 : PySem.W.codeIn K cd14 "pairs_in" = true) (k14 : PySem.W.keepIn K (.ref f14) = true)
    (a15 : PySem.W.nsIn K mainGlobals "deed_in" = some (some (.ref f15))) (l15 : K.lookup f15 = some ⟨oc15, od15, .func (PySem.W.fnOf "deed_in" "deed_in" (defArgs s_deed_in) (defBody s_deed_in) (defScope s_deed_in) .none kV15 dc15 pm15 an15 cd15 ct15), sl15⟩) (c15 : PySem.W.codeIn K cd15 "deed_in" = true) (k15 : PySem.W.keepIn K (.ref f15) = true)
    (a16 : PySem.W.nsIn K mainGlobals "read_number" = some (some (.ref f16))) (l16 : K.lookup f16 = some ⟨oc16, od16, .func (PySem.W.fnOf "read_number" "read_number" (defArgs s_read_number) (defBody s_read_number) (defScope s_read_number) .none kV16 dc16 pm16 an16 cd16 ct16), sl16⟩) (c16 : PySem.W.codeIn K cd16 "read_number" = true) (k16 : PySem.W.keepIn K (.ref f16) = true)
    (a17 : PySem.W.nsIn K mainGlobals "read_mark" = some (some (.ref f17))) (l17 : K.lookup f17 = some ⟨oc17, od17, .func (PySem.W.fnOf "read_mark" "read_mark" (defArgs s_read_mark) (defBody s_read_mark) (defScope s_read_mark) .none kV17 dc17 pm17 an17 cd17 ct17), sl17⟩) (c17 : PySem.W.codeIn K cd17 "read_mark" = true) (k17 : PySem.W.keepIn K (.ref f17) = true)
    (a18 : PySem.W.nsIn K mainGlobals "read_deed" = some (some (.ref f18))) (l18 : K.lookup f18 = some ⟨oc18, od18, .func (PySem.W.fnOf "read_deed" "read_deed" (defArgs s_read_deed) (defBody s_read_deed) (defScope s_read_deed) .none kV18 dc18 pm18 an18 cd18 ct18), sl18⟩) (c18 : PySem.W.codeIn K cd18 "read_deed" = true) (k18 : PySem.W.keepIn K (.ref f18) = true)
    (a19 : PySem.W.nsIn K mainGlobals "_law_bag" = some (some (.ref f19))) (l19 : K.lookup f19 = some ⟨oc19, od19, .func (PySem.W.fnOf "_law_bag" "_law_bag" (defArgs s_bag) (defBody s_bag) (defScope s_bag) .none kV19 dc19 pm19 an19 cd19 ct19), sl19⟩) (c19 : PySem.W.codeIn K cd19 "_law_bag" = true) (k19 : PySem.W.keepIn K (.ref f19) = true)
    (a20 : PySem.W.nsIn K mainGlobals "_law_take" = some (some (.ref f20))) (l20 : K.lookup f20 = some ⟨oc20, od20, .func (PySem.W.fnOf "_law_take" "_law_take" (defArgs s_take) (defBody s_take) (defScope s_take) .none kV20 dc20 pm20 an20 cd20 ct20), sl20⟩) (c20 : PySem.W.codeIn K cd20 "_law_take" = true) (k20 : PySem.W.keepIn K (.ref f20) = true)
    (a21 : PySem.W.nsIn K mainGlobals "_law_alike" = some (some (.ref f21))) (l21 : K.lookup f21 = some ⟨oc21, od21, .func (PySem.W.fnOf "_law_alike" "_law_alike" (defArgs s_alike) (defBody s_alike) (defScope s_alike) .none kV21 dc21 pm21 an21 cd21 ct21), sl21⟩) (c21 : PySem.W.codeIn K cd21 "_law_alike" = true) (k21 : PySem.W.keepIn K (.ref f21) = true)
    (a22 : PySem.W.nsIn K mainGlobals "_law_number" = some (some (.ref f22))) (l22 : K.lookup f22 = some ⟨oc22, od22, .func (PySem.W.fnOf "_law_number" "_law_number" (defArgs s_number) (defBody s_number) (defScope s_number) .none kV22 dc22 pm22 an22 cd22 ct22), sl22⟩) (c22 : PySem.W.codeIn K cd22 "_law_number" = true) (k22 : PySem.W.keepIn K (.ref f22) = true)
    (a23 : PySem.W.nsIn K mainGlobals "_law_mark" = some (some (.ref f23))) (l23 : K.lookup f23 = some ⟨oc23, od23, .func (PySem.W.fnOf "_law_mark" "_law_mark" (defArgs s_mark) (defBody s_mark) (defScope s_mark) .none kV23 dc23 pm23 an23 cd23 ct23), sl23⟩) (c23 : PySem.W.codeIn K cd23 "_law_mark" = true) (k23 : PySem.W.keepIn K (.ref f23) = true)
    (a24 : PySem.W.nsIn K mainGlobals "_law_marks" = some (some (.ref f24))) (l24 : K.lookup f24 = some ⟨oc24, od24, .func (PySem.W.fnOf "_law_marks" "_law_marks" (defArgs s_marks) (defBody s_marks) (defScope s_marks) .none kV24 dc24 pm24 an24 cd24 ct24), sl24⟩) (c24 : PySem.W.codeIn K cd24 "_law_marks" = true) (k24 : PySem.W.keepIn K (.ref f24) = true)
    (a25 : PySem.W.nsIn K mainGlobals "_law_deed" = some (some (.ref f25))) (l25 : K.lookup f25 = some ⟨oc25, od25, .func (PySem.W.fnOf "_law_deed" "_law_deed" (defArgs s_deed) (defBody s_deed) (defScope s_deed) .none kV25 dc25 pm25 an25 cd25 ct25), sl25⟩) (c25 : PySem.W.codeIn K cd25 "_law_deed" = true) (k25 : PySem.W.keepIn K (.ref f25) = true)
    (a26 : PySem.W.nsIn K mainGlobals "_law_dotted" = some (some (.ref f26))) (l26 : K.lookup f26 = some ⟨oc26, od26, .func (PySem.W.fnOf "_law_dotted" "_law_dotted" (defArgs s_dotted) (defBody s_dotted) (defScope s_dotted) .none kV26 dc26 pm26 an26 cd26 ct26), sl26⟩) (c26 : PySem.W.codeIn K cd26 "_law_dotted" = true) (k26 : PySem.W.keepIn K (.ref f26) = true)
    (a27 : PySem.W.nsIn K mainGlobals "_law_stroked" = some (some (.ref f27))) (l27 : K.lookup f27 = some ⟨oc27, od27, .func (PySem.W.fnOf "_law_stroked" "_law_stroked" (defArgs s_stroked) (defBody s_stroked) (defScope s_stroked) .none kV27 dc27 pm27 an27 cd27 ct27), sl27⟩) (c27 : PySem.W.codeIn K cd27 "_law_stroked" = true) (k27 : PySem.W.keepIn K (.ref f27) = true)
    (a28 : PySem.W.nsIn K mainGlobals "_law_deed_text" = some (some (.ref f28))) (l28 : K.lookup f28 = some ⟨oc28, od28, .func (PySem.W.fnOf "_law_deed_text" "_law_deed_text" (defArgs s_deed_text) (defBody s_deed_text) (defScope s_deed_text) .none kV28 dc28 pm28 an28 cd28 ct28), sl28⟩) (c28 : PySem.W.codeIn K cd28 "_law_deed_text" = true) (k28 : PySem.W.keepIn K (.ref f28) = true)
    (a29 : PySem.W.nsIn K mainGlobals "_law_whole_in" = some (some (.ref f29))) (l29 : K.lookup f29 = some ⟨oc29, od29, .func (PySem.W.fnOf "_law_whole_in" "_law_whole_in" (defArgs s_lwhole_in) (defBody s_lwhole_in) (defScope s_lwhole_in) .none kV29 dc29 pm29 an29 cd29 ct29), sl29⟩) (c29 : PySem.W.codeIn K cd29 "_law_whole_in" = true) (k29 : PySem.W.keepIn K (.ref f29) = true)
    (a30 : PySem.W.nsIn K mainGlobals "_law_number_in" = some (some (.ref f30))) (l30 : K.lookup f30 = some ⟨oc30, od30, .func (PySem.W.fnOf "_law_number_in" "_law_number_in" (defArgs s_lnumber_in) (defBody s_lnumber_in) (defScope s_lnumber_in) .none kV30 dc30 pm30 an30 cd30 ct30), sl30⟩) (c30 : PySem.W.codeIn K cd30 "_law_number_in" = true) (k30 : PySem.W.keepIn K (.ref f30) = true)
    (a31 : PySem.W.nsIn K mainGlobals "_law_mark_in" = some (some (.ref f31))) (l31 : K.lookup f31 = some ⟨oc31, od31, .func (PySem.W.fnOf "_law_mark_in" "_law_mark_in" (defArgs s_lmark_in) (defBody s_lmark_in) (defScope s_lmark_in) .none kV31 dc31 pm31 an31 cd31 ct31), sl31⟩) (c31 : PySem.W.codeIn K cd31 "_law_mark_in" = true) (k31 : PySem.W.keepIn K (.ref f31) = true)
    (a32 : PySem.W.nsIn K mainGlobals "_law_lists_in" = some (some (.ref f32))) (l32 : K.lookup f32 = some ⟨oc32, od32, .func (PySem.W.fnOf "_law_lists_in" "_law_lists_in" (defArgs s_lists_in) (defBody s_lists_in) (defScope s_lists_in) .none kV32 dc32 pm32 an32 cd32 ct32), sl32⟩) (c32 : PySem.W.codeIn K cd32 "_law_lists_in" = true) (k32 : PySem.W.keepIn K (.ref f32) = true)
    (a33 : PySem.W.nsIn K mainGlobals "_law_deed_in" = some (some (.ref f33))) (l33 : K.lookup f33 = some ⟨oc33, od33, .func (PySem.W.fnOf "_law_deed_in" "_law_deed_in" (defArgs s_ldeed_in) (defBody s_ldeed_in) (defScope s_ldeed_in) .none kV33 dc33 pm33 an33 cd33 ct33), sl33⟩) (c33 : PySem.W.codeIn K cd33 "_law_deed_in" = true) (k33 : PySem.W.keepIn K (.ref f33) = true)
    (a34 : PySem.W.nsIn K mainGlobals "_law_due" = some (some (.ref f34))) (l34 : K.lookup f34 = some ⟨oc34, od34, .func (PySem.W.fnOf "_law_due" "_law_due" (defArgs s_due) (defBody s_due) (defScope s_due) .none kV34 dc34 pm34 an34 cd34 ct34), sl34⟩) (c34 : PySem.W.codeIn K cd34 "_law_due" = true) (k34 : PySem.W.keepIn K (.ref f34) = true)
    (a35 : PySem.W.nsIn K mainGlobals "_law_told" = some (some (.ref f35))) (l35 : K.lookup f35 = some ⟨oc35, od35, .func (PySem.W.fnOf "_law_told" "_law_told" (defArgs s_told) (defBody s_told) (defScope s_told) .none kV35 dc35 pm35 an35 cd35 ct35), sl35⟩) (c35 : PySem.W.codeIn K cd35 "_law_told" = true) (k35 : PySem.W.keepIn K (.ref f35) = true)
    (a36 : PySem.W.nsIn K mainGlobals "_law_sign" = some (some (.ref f36))) (l36 : K.lookup f36 = some ⟨oc36, od36, .func (PySem.W.fnOf "_law_sign" "_law_sign" (defArgs s_sign) (defBody s_sign) (defScope s_sign) .none kV36 dc36 pm36 an36 cd36 ct36), sl36⟩) (c36 : PySem.W.codeIn K cd36 "_law_sign" = true) (k36 : PySem.W.keepIn K (.ref f36) = true)
    (a37 : PySem.W.nsIn K mainGlobals "_law_spoilt" = some (some (.ref f37))) (l37 : K.lookup f37 = some ⟨oc37, od37, .func (PySem.W.fnOf "_law_spoilt" "_law_spoilt" (defArgs s_spoilt) (defBody s_spoilt) (defScope s_spoilt) .none kV37 dc37 pm37 an37 cd37 ct37), sl37⟩) (c37 : PySem.W.codeIn K cd37 "_law_spoilt" = true) (k37 : PySem.W.keepIn K (.ref f37) = true)
    (a38 : PySem.W.nsIn K mainGlobals "_law_other_word" = some (some (.ref f38))) (l38 : K.lookup f38 = some ⟨oc38, od38, .func (PySem.W.fnOf "_law_other_word" "_law_other_word" (defArgs s_other_word) (defBody s_other_word) (defScope s_other_word) .none kV38 dc38 pm38 an38 cd38 ct38), sl38⟩) (c38 : PySem.W.codeIn K cd38 "_law_other_word" = true) (k38 : PySem.W.keepIn K (.ref f38) = true)
    (a39 : PySem.W.nsIn K mainGlobals "_law_text" = some (some (.ref f39))) (l39 : K.lookup f39 = some ⟨oc39, od39, .func (PySem.W.fnOf "_law_text" "_law_text" (defArgs s_text) (defBody s_text) (defScope s_text) .none kV39 dc39 pm39 an39 cd39 ct39), sl39⟩) (c39 : PySem.W.codeIn K cd39 "_law_text" = true) (k39 : PySem.W.keepIn K (.ref f39) = true)
    (a40 : PySem.W.nsIn K mainGlobals "_law_edges" = some (some (.ref f40))) (l40 : K.lookup f40 = some ⟨oc40, od40, .func (PySem.W.fnOf "_law_edges" "_law_edges" (defArgs s_edges) (defBody s_edges) (defScope s_edges) .none kV40 dc40 pm40 an40 cd40 ct40), sl40⟩) (c40 : PySem.W.codeIn K cd40 "_law_edges" = true) (k40 : PySem.W.keepIn K (.ref f40) = true)
    (a41 : PySem.W.nsIn K mainGlobals "law" = some (some (.ref f41))) (l41 : K.lookup f41 = some ⟨oc41, od41, .func (PySem.W.fnOf "law" "law" (defArgs s_law) (defBody s_law) (defScope s_law) .none kV41 dc41 pm41 an41 cd41 ct41), sl41⟩) (c41 : PySem.W.codeIn K cd41 "law" = true) (k41 : PySem.W.keepIn K (.ref f41) = true)
    (z0 : PySem.W.nsIn K mainGlobals "ValueError" = some none)
    (z1 : PySem.W.nsIn K mainGlobals "abs" = some none)
    (z2 : PySem.W.nsIn K mainGlobals "all" = some none)
    (z3 : PySem.W.nsIn K mainGlobals "any" = some none)
    (z4 : PySem.W.nsIn K mainGlobals "bool" = some none)
    (z5 : PySem.W.nsIn K mainGlobals "enumerate" = some none)
    (z6 : PySem.W.nsIn K mainGlobals "int" = some none)
    (z7 : PySem.W.nsIn K mainGlobals "isinstance" = some none)
    (z8 : PySem.W.nsIn K mainGlobals "len" = some none)
    (z9 : PySem.W.nsIn K mainGlobals "list" = some none)
    (z10 : PySem.W.nsIn K mainGlobals "min" = some none)
    (z11 : PySem.W.nsIn K mainGlobals "range" = some none)
    (z12 : PySem.W.nsIn K mainGlobals "repr" = some none)
    (z13 : PySem.W.nsIn K mainGlobals "set" = some none)
    (z14 : PySem.W.nsIn K mainGlobals "str" = some none)
    (z15 : PySem.W.nsIn K mainGlobals "tuple" = some none)
    {t0 : Tok} (y0 : PySem.W.nsIn K mainGlobals "FIGURES" = some (some (.str ("0123456789" : Str) t0)))
    {t1 : Tok} (y1 : PySem.W.nsIn K mainGlobals "LONGEST_NUMBER" = some (some (.int 6 t1)))
    {t2 : Tok} (y2 : PySem.W.nsIn K mainGlobals "MOST_FIGURES" = some (some (.int 22 t2)))
    {t3 : Tok} (y3 : PySem.W.nsIn K mainGlobals "MOST_MEASURE" = some (some (.int 1000000 t3)))
    {t4 : Tok} (y4 : PySem.W.nsIn K mainGlobals "MOST_OF_MARK" = some (some (.int 24 t4)))
    {t5 : Tok} (y5 : PySem.W.nsIn K mainGlobals "MOST_PAIRS" = some (some (.int 24 t5)))
    {t6 : Tok} (y6 : PySem.W.nsIn K mainGlobals "MOST_PART" = some (some (.int 4 t6)))
    {aK_MADE_OF : Addr} {esK_MADE_OF : Array DictEntry} {nK_MADE_OF : Nat} (gk_MADE_OF : PySem.W.nsIn K mainGlobals "MADE_OF" = some (some (.ref aK_MADE_OF))) (kk_MADE_OF : K.lookup aK_MADE_OF = some ⟨.type "dict", none, .dict esK_MADE_OF nK_MADE_OF, #[]⟩) (dk_MADE_OF : esK_MADE_OF.toList.map He.keyOf = He.keysIn w.params ["draw", "give", "regive", "leave", "dress", "crack", "haul", "lay", "lift"]) (sk_MADE_OF : (aK_MADE_OF == sysModules) = false)
    {aV_MADE_OF_0 : Addr} {dV_MADE_OF_0 : Option Addr} {nV_MADE_OF_0 : Nat} {sV_MADE_OF_0 : Array (Option Value)} {tV_MADE_OF_0_0 : Tok} (kn_MADE_OF_0 : PySem.W.nsIn K aK_MADE_OF "draw" = some (some (.ref aV_MADE_OF_0))) (kt_MADE_OF_0 : K.lookup aV_MADE_OF_0 = some ⟨.type "tuple", dV_MADE_OF_0, .seq #[.str ("number" : Str) tV_MADE_OF_0_0] nV_MADE_OF_0, sV_MADE_OF_0⟩)
    {aV_MADE_OF_1 : Addr} {dV_MADE_OF_1 : Option Addr} {nV_MADE_OF_1 : Nat} {sV_MADE_OF_1 : Array (Option Value)} {tV_MADE_OF_1_0 tV_MADE_OF_1_1 : Tok} (kn_MADE_OF_1 : PySem.W.nsIn K aK_MADE_OF "give" = some (some (.ref aV_MADE_OF_1))) (kt_MADE_OF_1 : K.lookup aV_MADE_OF_1 = some ⟨.type "tuple", dV_MADE_OF_1, .seq #[.str ("number" : Str) tV_MADE_OF_1_0, .str ("mark" : Str) tV_MADE_OF_1_1] nV_MADE_OF_1, sV_MADE_OF_1⟩)
    {aV_MADE_OF_2 : Addr} {dV_MADE_OF_2 : Option Addr} {nV_MADE_OF_2 : Nat} {sV_MADE_OF_2 : Array (Option Value)} {tV_MADE_OF_2_0 : Tok} (kn_MADE_OF_2 : PySem.W.nsIn K aK_MADE_OF "regive" = some (some (.ref aV_MADE_OF_2))) (kt_MADE_OF_2 : K.lookup aV_MADE_OF_2 = some ⟨.type "tuple", dV_MADE_OF_2, .seq #[.str ("pairs" : Str) tV_MADE_OF_2_0] nV_MADE_OF_2, sV_MADE_OF_2⟩)
    {aV_MADE_OF_3 : Addr} {dV_MADE_OF_3 : Option Addr} {nV_MADE_OF_3 : Nat} {sV_MADE_OF_3 : Array (Option Value)} {tV_MADE_OF_3_0 : Tok} (kn_MADE_OF_3 : PySem.W.nsIn K aK_MADE_OF "leave" = some (some (.ref aV_MADE_OF_3))) (kt_MADE_OF_3 : K.lookup aV_MADE_OF_3 = some ⟨.type "tuple", dV_MADE_OF_3, .seq #[.str ("mark" : Str) tV_MADE_OF_3_0] nV_MADE_OF_3, sV_MADE_OF_3⟩)
    {aV_MADE_OF_4 : Addr} {dV_MADE_OF_4 : Option Addr} {nV_MADE_OF_4 : Nat} {sV_MADE_OF_4 : Array (Option Value)} {tV_MADE_OF_4_0 : Tok} (kn_MADE_OF_4 : PySem.W.nsIn K aK_MADE_OF "dress" = some (some (.ref aV_MADE_OF_4))) (kt_MADE_OF_4 : K.lookup aV_MADE_OF_4 = some ⟨.type "tuple", dV_MADE_OF_4, .seq #[.str ("mark" : Str) tV_MADE_OF_4_0] nV_MADE_OF_4, sV_MADE_OF_4⟩)
    {aV_MADE_OF_5 : Addr} {dV_MADE_OF_5 : Option Addr} {nV_MADE_OF_5 : Nat} {sV_MADE_OF_5 : Array (Option Value)} {tV_MADE_OF_5_0 tV_MADE_OF_5_1 tV_MADE_OF_5_2 : Tok} (kn_MADE_OF_5 : PySem.W.nsIn K aK_MADE_OF "crack" = some (some (.ref aV_MADE_OF_5))) (kt_MADE_OF_5 : K.lookup aV_MADE_OF_5 = some ⟨.type "tuple", dV_MADE_OF_5, .seq #[.str ("number" : Str) tV_MADE_OF_5_0, .str ("axis" : Str) tV_MADE_OF_5_1, .str ("measure" : Str) tV_MADE_OF_5_2] nV_MADE_OF_5, sV_MADE_OF_5⟩)
    {aV_MADE_OF_6 : Addr} {dV_MADE_OF_6 : Option Addr} {nV_MADE_OF_6 : Nat} {sV_MADE_OF_6 : Array (Option Value)} {tV_MADE_OF_6_0 : Tok} (kn_MADE_OF_6 : PySem.W.nsIn K aK_MADE_OF "haul" = some (some (.ref aV_MADE_OF_6))) (kt_MADE_OF_6 : K.lookup aV_MADE_OF_6 = some ⟨.type "tuple", dV_MADE_OF_6, .seq #[.str ("marks" : Str) tV_MADE_OF_6_0] nV_MADE_OF_6, sV_MADE_OF_6⟩)
    {aV_MADE_OF_7 : Addr} {dV_MADE_OF_7 : Option Addr} {nV_MADE_OF_7 : Nat} {sV_MADE_OF_7 : Array (Option Value)} {tV_MADE_OF_7_0 : Tok} (kn_MADE_OF_7 : PySem.W.nsIn K aK_MADE_OF "lay" = some (some (.ref aV_MADE_OF_7))) (kt_MADE_OF_7 : K.lookup aV_MADE_OF_7 = some ⟨.type "tuple", dV_MADE_OF_7, .seq #[.str ("mark" : Str) tV_MADE_OF_7_0] nV_MADE_OF_7, sV_MADE_OF_7⟩)
    {aV_MADE_OF_8 : Addr} {dV_MADE_OF_8 : Option Addr} {nV_MADE_OF_8 : Nat} {sV_MADE_OF_8 : Array (Option Value)} {tV_MADE_OF_8_0 : Tok} (kn_MADE_OF_8 : PySem.W.nsIn K aK_MADE_OF "lift" = some (some (.ref aV_MADE_OF_8))) (kt_MADE_OF_8 : K.lookup aV_MADE_OF_8 = some ⟨.type "tuple", dV_MADE_OF_8, .seq #[.str ("mark" : Str) tV_MADE_OF_8_0] nV_MADE_OF_8, sV_MADE_OF_8⟩)
    {D_NoPlan D_NoRow D_NoText D_StoneError D_Wrong : Addr}
    (u_NoPlan : PySem.W.nsIn K mainGlobals "NoPlan" = some (some (.ref D_NoPlan)))
    (u_NoRow : PySem.W.nsIn K mainGlobals "NoRow" = some (some (.ref D_NoRow)))
    (u_NoText : PySem.W.nsIn K mainGlobals "NoText" = some (some (.ref D_NoText)))
    (u_StoneError : PySem.W.nsIn K mainGlobals "StoneError" = some (some (.ref D_StoneError)))
    (u_Wrong : PySem.W.nsIn K mainGlobals "Wrong" = some (some (.ref D_Wrong)))
    (b5 : PySem.W.specialIn K (.ref D_StoneError) "__getattribute__" = some (some (.builtin "type.__getattribute__")))
    (b6 : PySem.W.readsIn K D_StoneError (.type "type") = true)
    (b7 : PySem.W.findCls K (.ref D_StoneError) (.type "type") "__init__" = some (.val (.builtin "ValueError.__init__")))
    (b8 : PySem.W.specialIn K (.builtin "object.__class__") "__get__" = some (some (.builtin "getset_descriptor.__get__")))
    (b9 : PySem.W.takesIn K (.builtin "object.__class__") = some true)
    (v_StoneError_1 : PySem.W.subIn K (.ref D_StoneError) (.type "BaseException") = some true)
    (v_StoneError_2 : PySem.W.hasDictIn K D_StoneError = true)
    (v_StoneError_3 : PySem.W.typeIn K (.ref D_StoneError) = some (.type "type"))
    (w_NoPlan_1 : PySem.W.hasDictIn K D_NoPlan = true)
    (w_NoPlan_2 : PySem.W.typeIn K (.ref D_NoPlan) = some (.type "type"))
    (w_NoPlan_3 : PySem.W.subIn K (.ref D_NoPlan) (.ref D_NoPlan) = some true)
    (w_NoRow_1 : PySem.W.hasDictIn K D_NoRow = true)
    (w_NoRow_2 : PySem.W.typeIn K (.ref D_NoRow) = some (.type "type"))
    (w_NoRow_3 : PySem.W.subIn K (.ref D_NoRow) (.ref D_NoRow) = some true)
    (w_NoText_1 : PySem.W.hasDictIn K D_NoText = true)
    (w_NoText_2 : PySem.W.typeIn K (.ref D_NoText) = some (.type "type"))
    (w_NoText_3 : PySem.W.subIn K (.ref D_NoText) (.ref D_NoText) = some true)
    (w_Wrong_1 : PySem.W.hasDictIn K D_Wrong = true)
    (w_Wrong_2 : PySem.W.typeIn K (.ref D_Wrong) = some (.type "type"))
    (w_Wrong_3 : PySem.W.subIn K (.ref D_Wrong) (.ref D_Wrong) = some true)
    {I_NoText N_NoText : Addr} {nm_NoText q_NoText : Str} {bs_NoText bm_NoText : List Value} {sn_NoText : List Str} {sub_NoText : List Value} {ab_NoText : Bool} {col_NoText : Option Bool} {dd_NoText : Option Addr} {k0_NoText k1_NoText k2_NoText k3_NoText k5_NoText : Option Value}
    {oc_NoText kV_NoText doc_NoText pm_NoText cdv_NoText ct_NoText : Value} {od_NoText an_NoText : Option Addr} {sl_NoText : Array (Option Value)}
    (x_NoText_1 : K.lookup D_NoText = some (excClassObj nm_NoText q_NoText D_NoText N_NoText bs_NoText bm_NoText true sn_NoText sub_NoText ab_NoText col_NoText dd_NoText k0_NoText k1_NoText k2_NoText k3_NoText k5_NoText "ValueError.__new__"))
    (x_NoText_2 : PySem.HandSPX.refsVE bm_NoText = true)
    (x_NoText_3 : PySem.W.findIn K (.ref D_NoText) "__setattr__" = some (some (.builtin "object.__setattr__")))
    (x_NoText_4 : PySem.W.subIn K (.ref D_NoText) (.type "BaseException") = some true)
    (x_NoText_5 : PySem.W.typeIn K (.ref D_NoText) = some (.type "type"))
    (x_NoText_6 : PySem.W.keepIn K (.ref D_NoText) = true)
    (x_NoText_7 : PySem.W.findIn K (.ref D_NoText) "__init__" = some (some (.ref I_NoText)))
    (x_NoText_8 : PySem.W.typeIn K (.ref I_NoText) = some (.type "function"))
    (x_NoText_9 : K.lookup I_NoText = some ⟨oc_NoText, od_NoText, .func (PySem.W.fnOf "__init__" "NoText.__init__" (defArgs s_ini_NoText) (defBody s_ini_NoText) (defScope s_ini_NoText) .none kV_NoText doc_NoText pm_NoText an_NoText cdv_NoText ct_NoText), sl_NoText⟩)
    (x_NoText_a : PySem.W.codeIn K cdv_NoText "NoText.__init__" = true)
    (x_NoText_b : PySem.W.keepIn K (.ref I_NoText) = true)
    (x_NoText_c : PySem.W.findIn K (.ref D_NoText) "__getattribute__" = some (some (.builtin "BaseException.__getattribute__")))
    (x_NoText_d : PySem.W.findIn K (.ref D_NoText) "__getattr__" = some none)
    (x_NoText_e : PySem.W.hasDictIn K D_NoText = true)
    (x_NoText_f : PySem.W.findIn K (.ref D_NoText) "__class__" = some (some (.builtin "object.__class__")))
    (x_NoText_g : PySem.W.mroIn K D_NoText (.type "object") = some true)
    (x_NoText_h : PySem.W.subIn K (.ref D_NoText) (.type "ValueError") = some true)
    (t_NoText_NoPlan : PySem.W.subIn K (.ref D_NoText) (.ref D_NoPlan) = some false)
    (t_NoText_NoRow : PySem.W.subIn K (.ref D_NoText) (.ref D_NoRow) = some false)
    (t_NoText_Wrong : PySem.W.subIn K (.ref D_NoText) (.ref D_Wrong) = some false)
    (c_NoText_StoneError : PySem.W.subIn K (.ref D_NoText) (.ref D_StoneError) = some true)
    : Callee P w K mg base 11 "law" ["_law_script"] [] (lawS 63) := by
  have B : Bt mg := ⟨PySem.W.mg_none_of X G z0, PySem.W.mg_none_of X G z1, PySem.W.mg_none_of X G z2, PySem.W.mg_none_of X G z3, PySem.W.mg_none_of X G z4, PySem.W.mg_none_of X G z5, PySem.W.mg_none_of X G z6, PySem.W.mg_none_of X G z7, PySem.W.mg_none_of X G z8, PySem.W.mg_none_of X G z9, PySem.W.mg_none_of X G z10, PySem.W.mg_none_of X G z11, PySem.W.mg_none_of X G z12, PySem.W.mg_none_of X G z13, PySem.W.mg_none_of X G z14, PySem.W.mg_none_of X G z15, ⟨_, PySem.W.mg_of X G y0⟩, ⟨_, PySem.W.mg_of X G y1⟩, ⟨_, PySem.W.mg_of X G y2⟩, ⟨_, PySem.W.mg_of X G y3⟩, ⟨_, PySem.W.mg_of X G y4⟩, ⟨_, PySem.W.mg_of X G y5⟩, ⟨_, PySem.W.mg_of X G y6⟩⟩
  have KT_MADE_OF : KTab K w mg "MADE_OF" tab_MADE_OF (taK K "MADE_OF") := ktab_of2 X G gk_MADE_OF kk_MADE_OF dk_MADE_OF sk_MADE_OF (all_in ⟨_, kn_MADE_OF_0, by unfold tupNX; rw [kt_MADE_OF_0]; exact decide_eq_true rfl⟩ (all_in ⟨_, kn_MADE_OF_1, by unfold tupNX; rw [kt_MADE_OF_1]; exact decide_eq_true rfl⟩ (all_in ⟨_, kn_MADE_OF_2, by unfold tupNX; rw [kt_MADE_OF_2]; exact decide_eq_true rfl⟩ (all_in ⟨_, kn_MADE_OF_3, by unfold tupNX; rw [kt_MADE_OF_3]; exact decide_eq_true rfl⟩ (all_in ⟨_, kn_MADE_OF_4, by unfold tupNX; rw [kt_MADE_OF_4]; exact decide_eq_true rfl⟩ (all_in ⟨_, kn_MADE_OF_5, by unfold tupNX; rw [kt_MADE_OF_5]; exact decide_eq_true rfl⟩ (all_in ⟨_, kn_MADE_OF_6, by unfold tupNX; rw [kt_MADE_OF_6]; exact decide_eq_true rfl⟩ (all_in ⟨_, kn_MADE_OF_7, by unfold tupNX; rw [kt_MADE_OF_7]; exact decide_eq_true rfl⟩ (all_in ⟨_, kn_MADE_OF_8, by unfold tupNX; rw [kt_MADE_OF_8]; exact decide_eq_true rfl⟩ no_in))))))))) (by decide)
  obtain ⟨ca, e_NoPlan, e_NoRow, e_NoText, e_StoneError, e_Wrong⟩ : ∃ ca : Str → Addr, ca "NoPlan" = D_NoPlan ∧ ca "NoRow" = D_NoRow ∧ ca "NoText" = D_NoText ∧ ca "StoneError" = D_StoneError ∧ ca "Wrong" = D_Wrong := ⟨fun x => if x = "NoPlan" then D_NoPlan else if x = "NoRow" then D_NoRow else if x = "NoText" then D_NoText else if x = "StoneError" then D_StoneError else if x = "Wrong" then D_Wrong else D_StoneError, by dsimp only; rw [if_pos rfl], by dsimp only; rw [if_neg (by decide)]; rw [if_pos rfl], by dsimp only; rw [if_neg (by decide)]; rw [if_neg (by decide)]; rw [if_pos rfl], by dsimp only; rw [if_neg (by decide)]; rw [if_neg (by decide)]; rw [if_neg (by decide)]; rw [if_pos rfl], by dsimp only; rw [if_neg (by decide)]; rw [if_neg (by decide)]; rw [if_neg (by decide)]; rw [if_neg (by decide)]; rw [if_pos rfl]⟩
  subst e_NoPlan e_NoRow e_NoText e_StoneError e_Wrong
  have D_is_whole : DefAt K mg "is_whole" s_is_whole ["thing"] := def_at X G a0 l0 c0 k0 fun _ _ _ _ _ _ us hl => match us, hl with | [_], _ => rfl
  have D_is_between : DefAt K mg "is_between" s_is_between ["thing", "least", "most"] := def_at X G a1 l1 c1 k1 fun _ _ _ _ _ _ us hl => match us, hl with | [_, _, _], _ => rfl
  have D_are_between : DefAt K mg "are_between" s_are_between ["things", "least", "most"] := def_at X G a2 l2 c2 k2 fun _ _ _ _ _ _ us hl => match us, hl with | [_, _, _], _ => rfl
  have D_is_measure : DefAt K mg "is_measure" s_is_measure ["thing"] := def_at X G a3 l3 c3 k3 fun _ _ _ _ _ _ us hl => match us, hl with | [_], _ => rfl
  have D_is_number : DefAt K mg "is_number" s_is_number ["thing"] := def_at X G a4 l4 c4 k4 fun _ _ _ _ _ _ us hl => match us, hl with | [_], _ => rfl
  have D_is_mark : DefAt K mg "is_mark" s_is_mark ["thing"] := def_at X G a5 l5 c5 k5 fun _ _ _ _ _ _ us hl => match us, hl with | [_], _ => rfl
  have D_is_pair : DefAt K mg "is_pair" s_is_pair ["thing"] := def_at X G a6 l6 c6 k6 fun _ _ _ _ _ _ us hl => match us, hl with | [_], _ => rfl
  have D_are_pairs : DefAt K mg "are_pairs" s_are_pairs ["thing"] := def_at X G a7 l7 c7 k7 fun _ _ _ _ _ _ us hl => match us, hl with | [_], _ => rfl
  have D_are_hauled : DefAt K mg "are_hauled" s_are_hauled ["thing"] := def_at X G a8 l8 c8 k8 fun _ _ _ _ _ _ us hl => match us, hl with | [_], _ => rfl
  have D_is_made : DefAt K mg "is_made" s_is_made ["kind", "thing"] := def_at X G a9 l9 c9 k9 fun _ _ _ _ _ _ us hl => match us, hl with | [_, _], _ => rfl
  have D_is_deed : DefAt K mg "is_deed" s_is_deed ["thing"] := def_at X G a10 l10 c10 k10 fun _ _ _ _ _ _ us hl => match us, hl with | [_], _ => rfl
  have D_whole_in : DefAt K mg "whole_in" s_whole_in ["word"] := def_at X G a11 l11 c11 k11 fun _ _ _ _ _ _ us hl => match us, hl with | [_], _ => rfl
  have D_number_in : DefAt K mg "number_in" s_number_in ["word"] := def_at X G a12 l12 c12 k12 fun _ _ _ _ _ _ us hl => match us, hl with | [_], _ => rfl
  have D_mark_in : DefAt K mg "mark_in" s_mark_in ["word"] := def_at X G a13 l13 c13 k13 fun _ _ _ _ _ _ us hl => match us, hl with | [_], _ => rfl
  have D_pairs_in : DefAt K mg "pairs_in" s_pairs_in ["words"] := def_at X G a14 l14 c14 k14 fun _ _ _ _ _ _ us hl => match us, hl with | [_], _ => rfl
  have D_deed_in : DefAt K mg "deed_in" s_deed_in ["words"] := def_at X G a15 l15 c15 k15 fun _ _ _ _ _ _ us hl => match us, hl with | [_], _ => rfl
  have D_read_number : DefAt K mg "read_number" s_read_number ["text"] := def_at X G a16 l16 c16 k16 fun _ _ _ _ _ _ us hl => match us, hl with | [_], _ => rfl
  have D_read_mark : DefAt K mg "read_mark" s_read_mark ["text"] := def_at X G a17 l17 c17 k17 fun _ _ _ _ _ _ us hl => match us, hl with | [_], _ => rfl
  have D_read_deed : DefAt K mg "read_deed" s_read_deed ["text"] := def_at X G a18 l18 c18 k18 fun _ _ _ _ _ _ us hl => match us, hl with | [_], _ => rfl
  have D_bag : DefAt K mg "_law_bag" s_bag ["_law_script"] := def_at X G a19 l19 c19 k19 fun _ _ _ _ _ _ us hl => match us, hl with | [_], _ => rfl
  have D_take : DefAt K mg "_law_take" s_take ["_law_bag_here", "_law_many"] := def_at X G a20 l20 c20 k20 fun _ _ _ _ _ _ us hl => match us, hl with | [_, _], _ => rfl
  have D_alike : DefAt K mg "_law_alike" s_alike ["_law_found", "_law_due_here"] := def_at X G a21 l21 c21 k21 fun _ _ _ _ _ _ us hl => match us, hl with | [_, _], _ => rfl
  have D_number : DefAt K mg "_law_number" s_number ["_law_bag_here"] := def_at X G a22 l22 c22 k22 fun _ _ _ _ _ _ us hl => match us, hl with | [_], _ => rfl
  have D_mark : DefAt K mg "_law_mark" s_mark ["_law_bag_here"] := def_at X G a23 l23 c23 k23 fun _ _ _ _ _ _ us hl => match us, hl with | [_], _ => rfl
  have D_marks : DefAt K mg "_law_marks" s_marks ["_law_bag_here"] := def_at X G a24 l24 c24 k24 fun _ _ _ _ _ _ us hl => match us, hl with | [_], _ => rfl
  have D_deed : DefAt K mg "_law_deed" s_deed ["_law_bag_here"] := def_at X G a25 l25 c25 k25 fun _ _ _ _ _ _ us hl => match us, hl with | [_], _ => rfl
  have D_dotted : DefAt K mg "_law_dotted" s_dotted ["_law_number_here"] := def_at X G a26 l26 c26 k26 fun _ _ _ _ _ _ us hl => match us, hl with | [_], _ => rfl
  have D_stroked : DefAt K mg "_law_stroked" s_stroked ["_law_mark_here"] := def_at X G a27 l27 c27 k27 fun _ _ _ _ _ _ us hl => match us, hl with | [_], _ => rfl
  have D_deed_text : DefAt K mg "_law_deed_text" s_deed_text ["_law_deed_here"] := def_at X G a28 l28 c28 k28 fun _ _ _ _ _ _ us hl => match us, hl with | [_], _ => rfl
  have D_lwhole_in : DefAt K mg "_law_whole_in" s_lwhole_in ["_law_word", "_law_least", "_law_most"] := def_at X G a29 l29 c29 k29 fun _ _ _ _ _ _ us hl => match us, hl with | [_, _, _], _ => rfl
  have D_lnumber_in : DefAt K mg "_law_number_in" s_lnumber_in ["_law_word"] := def_at X G a30 l30 c30 k30 fun _ _ _ _ _ _ us hl => match us, hl with | [_], _ => rfl
  have D_lmark_in : DefAt K mg "_law_mark_in" s_lmark_in ["_law_word"] := def_at X G a31 l31 c31 k31 fun _ _ _ _ _ _ us hl => match us, hl with | [_], _ => rfl
  have D_lists_in : DefAt K mg "_law_lists_in" s_lists_in ["_law_words"] := def_at X G a32 l32 c32 k32 fun _ _ _ _ _ _ us hl => match us, hl with | [_], _ => rfl
  have D_ldeed_in : DefAt K mg "_law_deed_in" s_ldeed_in ["_law_words"] := def_at X G a33 l33 c33 k33 fun _ _ _ _ _ _ us hl => match us, hl with | [_], _ => rfl
  have D_due : DefAt K mg "_law_due" s_due ["_law_word", "_law_text_here"] := def_at X G a34 l34 c34 k34 fun _ _ _ _ _ _ us hl => match us, hl with | [_, _], _ => rfl
  have D_told : DefAt K mg "_law_told" s_told ["_law_word", "_law_text_here"] := def_at X G a35 l35 c35 k35 fun _ _ _ _ _ _ us hl => match us, hl with | [_, _], _ => rfl
  have D_sign : DefAt K mg "_law_sign" s_sign ["_law_bag_here"] := def_at X G a36 l36 c36 k36 fun _ _ _ _ _ _ us hl => match us, hl with | [_], _ => rfl
  have D_spoilt : DefAt K mg "_law_spoilt" s_spoilt ["_law_bag_here", "_law_text_here"] := def_at X G a37 l37 c37 k37 fun _ _ _ _ _ _ us hl => match us, hl with | [_, _], _ => rfl
  have D_other_word : DefAt K mg "_law_other_word" s_other_word ["_law_bag_here", "_law_text_here"] := def_at X G a38 l38 c38 k38 fun _ _ _ _ _ _ us hl => match us, hl with | [_, _], _ => rfl
  have D_text : DefAt K mg "_law_text" s_text ["_law_bag_here"] := def_at X G a39 l39 c39 k39 fun _ _ _ _ _ _ us hl => match us, hl with | [_], _ => rfl
  have D_edges : DefAt K mg "_law_edges" s_edges [] := def_at X G a40 l40 c40 k40 fun _ _ _ _ _ _ us hl => match us, hl with | [], _ => rfl
  have D_law : DefAt K mg "law" s_law ["_law_script"] := def_at X G a41 l41 c41 k41 fun _ _ _ _ _ _ us hl => match us, hl with | [_], _ => rfl
  have m_ : ∀ x : Str, x ∈ (["NoPlan", "NoRow", "NoText", "StoneError", "Wrong"] : List Str) → mg x = some (.ref (ca x)) := (all_in (PySem.W.mg_of X G u_NoPlan) (all_in (PySem.W.mg_of X G u_NoRow) (all_in (PySem.W.mg_of X G u_NoText) (all_in (PySem.W.mg_of X G u_StoneError) (all_in (PySem.W.mg_of X G u_Wrong) no_in)))))
  have T : Xt K mg ca nsL tsL csL fsL isaL := {
    mg := fun x hx => m_ x (by simp [tsL, csL] at hx ⊢; grind)
    exc := (all_in ⟨x_NoText_c, x_NoText_d, x_NoText_4, x_NoText_e, x_NoText_f, b8, b9, x_NoText_g⟩ no_in)
    kit := (all_in (all_in ((kit_sub w_NoPlan_1 w_NoPlan_2 t_NoText_NoPlan w_NoPlan_3).trans (by decide)) (all_in ((kit_sub w_NoRow_1 w_NoRow_2 t_NoText_NoRow w_NoRow_3).trans (by decide)) (all_in ((kit_sub w_NoText_1 w_NoText_2 w_NoText_3 w_NoText_3).trans (by decide)) (all_in ((kit_sub w_Wrong_1 w_Wrong_2 t_NoText_Wrong w_Wrong_3).trans (by decide)) no_in)))) no_in)
    kitV := (all_in (kit_val x_NoText_h) no_in)
    exm := (all_in (all_in (by rw [PySem.W.exm_ref v_StoneError_1 v_StoneError_2 v_StoneError_3 c_NoText_StoneError]; decide) no_in) no_in)
    no := (all_in no_in no_in) }
  have Bc : BaseC K mg "StoneError" := ⟨ca "StoneError", PySem.W.mg_of X G u_StoneError, b5, b6, b7⟩
  obtain ⟨fd_NoText, Fu_NoText, bn_NoText⟩ := fun_at (x := "__init__") (qual := "NoText.__init__") (st := s_ini_NoText) (ps := ["self"]) x_NoText_9 x_NoText_a x_NoText_b fun _ _ _ _ _ _ us hl => match us, hl with | [_], _ => rfl
  have R_NoText : BareG P w K mg base 1 "NoText" (ca "NoText") := ⟨PySem.W.mg_of X G u_NoText, I_NoText, fd_NoText, ⟨⟨nm_NoText, q_NoText, N_NoText, bs_NoText, bm_NoText, sn_NoText, sub_NoText, ab_NoText, col_NoText, dd_NoText, k0_NoText, k1_NoText, k2_NoText, k3_NoText, k5_NoText, x_NoText_1, x_NoText_2⟩, x_NoText_3, x_NoText_4, x_NoText_5, x_NoText_6⟩, x_NoText_7, x_NoText_8, ini_NoText Fu_NoText Bc, bn_NoText⟩
  have C_bag : Callee P w K mg base 1 "_law_bag" ["_law_script"] [] bagS := ok_bag D_bag B
  have C_edges : Callee P w K mg base 1 "_law_edges" [] [] ledgeS := ok_edges D_edges
  have C_take : Callee P w K mg base 1 "_law_take" ["_law_bag_here", "_law_many"] [0] takeS := ok_take D_take B
  have C_dotted : Callee P w K mg base 1 "_law_dotted" ["_law_number_here"] [] showNS := ok_dotted D_dotted B
  have C_stroked : Callee P w K mg base 1 "_law_stroked" ["_law_mark_here"] [] showMS := ok_stroked D_stroked B
  have C_deed_text : Callee P w K mg base 2 "_law_deed_text" ["_law_deed_here"] [] showDS := ok_deed_text D_deed_text B C_dotted C_stroked
  have C_number : Callee P w K mg base 2 "_law_number" ["_law_bag_here"] [0] lnumS := ok_number D_number B C_take
  have C_mark : Callee P w K mg base 2 "_law_mark" ["_law_bag_here"] [0] lmarkS := ok_mark D_mark C_take
  have C_marks : Callee P w K mg base 3 "_law_marks" ["_law_bag_here"] [0] lmarksS := ok_marks D_marks C_mark C_take
  have C_deed : Callee P w K mg base 4 "_law_deed" ["_law_bag_here"] [0] ldeedS := ok_deed D_deed B C_number C_mark C_take C_marks
  have C_sign : Callee P w K mg base 2 "_law_sign" ["_law_bag_here"] [0] lsignS := ok_sign D_sign B C_take
  have C_spoilt : Callee P w K mg base 3 "_law_spoilt" ["_law_bag_here", "_law_text_here"] [0] lspoilS := ok_spoilt D_spoilt B C_take C_sign
  have C_other_word : Callee P w K mg base 2 "_law_other_word" ["_law_bag_here", "_law_text_here"] [0] lotherS := ok_other_word D_other_word B C_take
  have C_text : Callee P w K mg base 5 "_law_text" ["_law_bag_here"] [0] ltextS := ok_text D_text B C_take C_deed_text C_dotted C_stroked C_deed C_number C_mark C_spoilt C_other_word
  have C_alike : Callee P w K mg base 1 "_law_alike" ["_law_found", "_law_due_here"] [] alikeS := ok_alike D_alike B
  have C_is_whole : Callee P w K mg base 1 "is_whole" ["thing"] [] wholeS := ok_is_whole D_is_whole B
  have C_is_between : Callee P w K mg base 2 "is_between" ["thing", "least", "most"] [] betweenS := ok_is_between D_is_between C_is_whole
  have C_are_between : Callee P w K mg base 3 "are_between" ["things", "least", "most"] [] areS := ok_are_between D_are_between C_is_between
  have C_is_number : Callee P w K mg base 4 "is_number" ["thing"] [] (oneT nuB) := ok_is_number D_is_number B C_is_between C_are_between
  have C_whole_in : Callee P w K mg base 1 "whole_in" ["word"] [] wholeInS := ok_whole_in D_whole_in B
  have C_number_in : Callee P w K mg base 5 "number_in" ["word"] [] numInS := ok_number_in D_number_in B C_is_number C_whole_in
  have C_is_mark : Callee P w K mg base 4 "is_mark" ["thing"] [] (oneT mkB) := ok_is_mark D_is_mark B C_are_between
  have C_mark_in : Callee P w K mg base 5 "mark_in" ["word"] [] mkInS := ok_mark_in D_mark_in B C_is_mark C_whole_in
  have C_pairs_in : Callee P w K mg base 6 "pairs_in" ["words"] [] prInS := ok_pairs_in D_pairs_in B C_number_in C_mark_in
  have C_deed_in : Callee P w K mg base 7 "deed_in" ["words"] [] dinS := ok_deed_in D_deed_in B C_pairs_in C_number_in C_mark_in C_whole_in
  have C_is_measure : Callee P w K mg base 3 "is_measure" ["thing"] [] measureS := ok_is_measure D_is_measure B C_is_between
  have C_is_pair : Callee P w K mg base 5 "is_pair" ["thing"] [] (oneP prB) := ok_is_pair D_is_pair B C_is_number C_is_mark
  have C_are_pairs : Callee P w K mg base 6 "are_pairs" ["thing"] [] (oneP prsB) := ok_are_pairs D_are_pairs B C_is_pair
  have C_are_hauled : Callee P w K mg base 5 "are_hauled" ["thing"] [] (oneP mksB) := ok_are_hauled D_are_hauled B C_is_mark
  have C_is_made : Callee P w K mg base 7 "is_made" ["kind", "thing"] [] madeS := ok_is_made D_is_made C_is_measure C_is_number C_is_mark C_are_pairs C_are_hauled C_is_whole
  have C_is_deed : Callee P w K mg base 8 "is_deed" ["thing"] [] deedS := ok_is_deed D_is_deed B KT_MADE_OF C_is_made
  have C_read_deed : Callee P w K mg base 9 "read_deed" ["text"] [] (rdDS ca) := ok_read_deed D_read_deed B R_NoText C_deed_in C_is_deed
  have C_read_number : Callee P w K mg base 6 "read_number" ["text"] [] (rdNS ca) := ok_read_number D_read_number B R_NoText C_number_in
  have C_read_mark : Callee P w K mg base 6 "read_mark" ["text"] [] (rdMS ca) := ok_read_mark D_read_mark B R_NoText C_mark_in
  have C_told : Callee P w K mg base 10 "_law_told" ["_law_word", "_law_text_here"] [] ltoldS := ok_told D_told B T C_read_deed C_read_number C_read_mark
  have C_lwhole_in : Callee P w K mg base 1 "_law_whole_in" ["_law_word", "_law_least", "_law_most"] [] lwS := ok_lwhole_in D_lwhole_in B
  have C_lnumber_in : Callee P w K mg base 2 "_law_number_in" ["_law_word"] [] numInS := ok_lnumber_in D_lnumber_in B C_lwhole_in
  have C_lmark_in : Callee P w K mg base 2 "_law_mark_in" ["_law_word"] [] mkInS := ok_lmark_in D_lmark_in B C_lwhole_in
  have C_lists_in : Callee P w K mg base 3 "_law_lists_in" ["_law_words"] [] llistS := ok_lists_in D_lists_in B C_lmark_in C_lnumber_in
  have C_ldeed_in : Callee P w K mg base 4 "_law_deed_in" ["_law_words"] [] ldinS := ok_ldeed_in D_ldeed_in B C_lists_in C_lnumber_in C_lmark_in C_lwhole_in
  have C_due : Callee P w K mg base 5 "_law_due" ["_law_word", "_law_text_here"] [] ldueS := ok_due D_due C_lnumber_in C_lmark_in C_ldeed_in
  have C_law : Callee P w K mg base 11 "law" ["_law_script"] [] (lawS 63) := ok_law D_law B C_bag C_edges C_text C_alike C_told C_due
  exact C_law
end My
open PySem PySem.W PyProof.Rows
set_option maxHeartbeats 0 in
theorem PySem.Challenge.cw_bedstone_k94_texts_refused_holds : PySem.Challenge.rw_bedstone_k94_texts_refused.Holds := by
  w_on; o_law; k_head; (case hw => w_witness2)
  k_fill
  refine QV.walk_ofG (l := PySem.Challenge.rw_bedstone_k94_texts_refused) (n := 63) (k := 11) (x := "_law_script") rfl (by decide) rfl ⟨rfl, by decide, by decide⟩ (fun w h Y => PySem.W.kIn_of Y) ?F
  case F =>
    intro w mg h KX G base
    refine' My.all_mk KX G base ?a0 ?l0 ?c0 ?k0 ?a1 ?l1 ?c1 ?k1 ?a2 ?l2 ?c2 ?k2 ?a3 ?l3 ?c3 ?k3 ?a4 ?l4 ?c4 ?k4 ?a5 ?l5 ?c5 ?k5 ?a6 ?l6 ?c6 ?k6 ?a7 ?l7 ?c7 ?k7 ?a8 ?l8 ?c8 ?k8 ?a9 ?l9 ?c9 ?k9 ?a10 ?l10 ?c10 ?k10 ?a11 ?l11 ?c11 ?k11 ?a12 ?l12 ?c12 ?k12 ?a13 ?l13 ?c13 ?k13 ?a14 ?l14 ?c14 ?k14 ?a15 ?l15 ?c15 ?k15 ?a16 ?l16 ?c16 ?k16 ?a17 ?l17 ?c17 ?k17 ?a18 ?l18 ?c18 ?k18 ?a19 ?l19 ?c19 ?k19 ?a20 ?l20 ?c20 ?k20 ?a21 ?l21 ?c21 ?k21 ?a22 ?l22 ?c22 ?k22 ?a23 ?l23 ?c23 ?k23 ?a24 ?l24 ?c24 ?k24 ?a25 ?l25 ?c25 ?k25 ?a26 ?l26 ?c26 ?k26 ?a27 ?l27 ?c27 ?k27 ?a28 ?l28 ?c28 ?k28 ?a29 ?l29 ?c29 ?k29 ?a30 ?l30 ?c30 ?k30 ?a31 ?l31 ?c31 ?k31 ?a32 ?l32 ?c32 ?k32 ?a33 ?l33 ?c33 ?k33 ?a34 ?l34 ?c34 ?k34 ?a35 ?l35 ?c35 ?k35 ?a36 ?l36 ?c36 ?k36 ?a37 ?l37 ?c37 ?k37 ?a38 ?l38 ?c38 ?k38 ?a39 ?l39 ?c39 ?k39 ?a40 ?l40 ?c40 ?k40 ?a41 ?l41 ?c41 ?k41 ?z0 ?z1 ?z2 ?z3 ?z4 ?z5 ?z6 ?z7 ?z8 ?z9 ?z10 ?z11 ?z12 ?z13 ?z14 ?z15 ?y0 ?y1 ?y2 ?y3 ?y4 ?y5 ?y6 ?gk_MADE_OF ?kk_MADE_OF ?dk_MADE_OF ?sk_MADE_OF ?kn_MADE_OF_0 ?kt_MADE_OF_0 ?kn_MADE_OF_1 ?kt_MADE_OF_1 ?kn_MADE_OF_2 ?kt_MADE_OF_2 ?kn_MADE_OF_3 ?kt_MADE_OF_3 ?kn_MADE_OF_4 ?kt_MADE_OF_4 ?kn_MADE_OF_5 ?kt_MADE_OF_5 ?kn_MADE_OF_6 ?kt_MADE_OF_6 ?kn_MADE_OF_7 ?kt_MADE_OF_7 ?kn_MADE_OF_8 ?kt_MADE_OF_8 ?u_NoPlan ?u_NoRow ?u_NoText ?u_StoneError ?u_Wrong ?b5 ?b6 ?b7 ?b8 ?b9 ?v_StoneError_1 ?v_StoneError_2 ?v_StoneError_3 ?w_NoPlan_1 ?w_NoPlan_2 ?w_NoPlan_3 ?w_NoRow_1 ?w_NoRow_2 ?w_NoRow_3 ?w_NoText_1 ?w_NoText_2 ?w_NoText_3 ?w_Wrong_1 ?w_Wrong_2 ?w_Wrong_3 ?x_NoText_1 ?x_NoText_2 ?x_NoText_3 ?x_NoText_4 ?x_NoText_5 ?x_NoText_6 ?x_NoText_7 ?x_NoText_8 ?x_NoText_9 ?x_NoText_a ?x_NoText_b ?x_NoText_c ?x_NoText_d ?x_NoText_e ?x_NoText_f ?x_NoText_g ?x_NoText_h ?t_NoText_NoPlan ?t_NoText_NoRow ?t_NoText_Wrong ?c_NoText_StoneError
    (case a0 => k_is); (case l0 => k_is); (case c0 => k_is); (case k0 => k_is); (case a1 => k_is); (case l1 => k_is); (case c1 => k_is); (case k1 => k_is); (case a2 => k_is); (case l2 => k_is); (case c2 => k_is); (case k2 => k_is); (case a3 => k_is); (case l3 => k_is); (case c3 => k_is); (case k3 => k_is); (case a4 => k_is); (case l4 => k_is); (case c4 => k_is); (case k4 => k_is); (case a5 => k_is); (case l5 => k_is); (case c5 => k_is); (case k5 => k_is); (case a6 => k_is); (case l6 => k_is); (case c6 => k_is); (case k6 => k_is); (case a7 => k_is); (case l7 => k_is); (case c7 => k_is); (case k7 => k_is); (case a8 => k_is); (case l8 => k_is); (case c8 => k_is); (case k8 => k_is); (case a9 => k_is); (case l9 => k_is); (case c9 => k_is); (case k9 => k_is); (case a10 => k_is); (case l10 => k_is); (case c10 => k_is); (case k10 => k_is); (case a11 => k_is); (case l11 => k_is); (case c11 => k_is); (case k11 => k_is); (case a12 => k_is); (case l12 => k_is); (case c12 => k_is); (case k12 => k_is); (case a13 => k_is); (case l13 => k_is); (case c13 => k_is); (case k13 => k_is); (case a14 => k_is); (case l14 => k_is); (case c14 => k_is); (case k14 => k_is); (case a15 => k_is); (case l15 => k_is); (case c15 => k_is); (case k15 => k_is); (case a16 => k_is); (case l16 => k_is); (case c16 => k_is); (case k16 => k_is); (case a17 => k_is); (case l17 => k_is); (case c17 => k_is); (case k17 => k_is); (case a18 => k_is); (case l18 => k_is); (case c18 => k_is); (case k18 => k_is); (case a19 => k_is); (case l19 => k_is); (case c19 => k_is); (case k19 => k_is); (case a20 => k_is); (case l20 => k_is); (case c20 => k_is); (case k20 => k_is); (case a21 => k_is); (case l21 => k_is); (case c21 => k_is); (case k21 => k_is); (case a22 => k_is); (case l22 => k_is); (case c22 => k_is); (case k22 => k_is); (case a23 => k_is); (case l23 => k_is); (case c23 => k_is); (case k23 => k_is); (case a24 => k_is); (case l24 => k_is); (case c24 => k_is); (case k24 => k_is); (case a25 => k_is); (case l25 => k_is); (case c25 => k_is); (case k25 => k_is); (case a26 => k_is); (case l26 => k_is); (case c26 => k_is); (case k26 => k_is); (case a27 => k_is); (case l27 => k_is); (case c27 => k_is); (case k27 => k_is); (case a28 => k_is); (case l28 => k_is); (case c28 => k_is); (case k28 => k_is); (case a29 => k_is); (case l29 => k_is); (case c29 => k_is); (case k29 => k_is); (case a30 => k_is); (case l30 => k_is); (case c30 => k_is); (case k30 => k_is); (case a31 => k_is); (case l31 => k_is); (case c31 => k_is); (case k31 => k_is); (case a32 => k_is); (case l32 => k_is); (case c32 => k_is); (case k32 => k_is); (case a33 => k_is); (case l33 => k_is); (case c33 => k_is); (case k33 => k_is); (case a34 => k_is); (case l34 => k_is); (case c34 => k_is); (case k34 => k_is); (case a35 => k_is); (case l35 => k_is); (case c35 => k_is); (case k35 => k_is); (case a36 => k_is); (case l36 => k_is); (case c36 => k_is); (case k36 => k_is); (case a37 => k_is); (case l37 => k_is); (case c37 => k_is); (case k37 => k_is); (case a38 => k_is); (case l38 => k_is); (case c38 => k_is); (case k38 => k_is); (case a39 => k_is); (case l39 => k_is); (case c39 => k_is); (case k39 => k_is); (case a40 => k_is); (case l40 => k_is); (case c40 => k_is); (case k40 => k_is); (case a41 => k_is); (case l41 => k_is); (case c41 => k_is); (case k41 => k_is); (case z0 => k_is); (case z1 => k_is); (case z2 => k_is); (case z3 => k_is); (case z4 => k_is); (case z5 => k_is); (case z6 => k_is); (case z7 => k_is); (case z8 => k_is); (case z9 => k_is); (case z10 => k_is); (case z11 => k_is); (case z12 => k_is); (case z13 => k_is); (case z14 => k_is); (case z15 => k_is); (case y0 => k_is); (case y1 => k_is); (case y2 => k_is); (case y3 => k_is); (case y4 => k_is); (case y5 => k_is); (case y6 => k_is); (case gk_MADE_OF => k_is); (case kk_MADE_OF => k_is); (case dk_MADE_OF => rfl); (case sk_MADE_OF => first | rfl | decide +kernel); (case kn_MADE_OF_0 => k_is); (case kt_MADE_OF_0 => k_is); (case kn_MADE_OF_1 => k_is); (case kt_MADE_OF_1 => k_is); (case kn_MADE_OF_2 => k_is); (case kt_MADE_OF_2 => k_is); (case kn_MADE_OF_3 => k_is); (case kt_MADE_OF_3 => k_is); (case kn_MADE_OF_4 => k_is); (case kt_MADE_OF_4 => k_is); (case kn_MADE_OF_5 => k_is); (case kt_MADE_OF_5 => k_is); (case kn_MADE_OF_6 => k_is); (case kt_MADE_OF_6 => k_is); (case kn_MADE_OF_7 => k_is); (case kt_MADE_OF_7 => k_is); (case kn_MADE_OF_8 => k_is); (case kt_MADE_OF_8 => k_is); (case u_NoPlan => k_is); (case u_NoRow => k_is); (case u_NoText => k_is); (case u_StoneError => k_is); (case u_Wrong => k_is); (case b5 => k_is); (case b6 => k_is); (case b7 => k_is); (case b8 => k_is); (case b9 => k_is); (case v_StoneError_1 => k_is); (case v_StoneError_2 => k_is); (case v_StoneError_3 => k_is); (case w_NoPlan_1 => k_is); (case w_NoPlan_2 => k_is); (case w_NoPlan_3 => k_is); (case w_NoRow_1 => k_is); (case w_NoRow_2 => k_is); (case w_NoRow_3 => k_is); (case w_NoText_1 => k_is); (case w_NoText_2 => k_is); (case w_NoText_3 => k_is); (case w_Wrong_1 => k_is); (case w_Wrong_2 => k_is); (case w_Wrong_3 => k_is); (case x_NoText_1 => k_is); (case x_NoText_2 => first | k_is | rfl | decide +kernel); (case x_NoText_3 => k_is); (case x_NoText_4 => k_is); (case x_NoText_5 => k_is); (case x_NoText_6 => k_is); (case x_NoText_7 => k_is); (case x_NoText_8 => k_is); (case x_NoText_9 => k_is); (case x_NoText_a => k_is); (case x_NoText_b => k_is); (case x_NoText_c => k_is); (case x_NoText_d => k_is); (case x_NoText_e => k_is); (case x_NoText_f => k_is); (case x_NoText_g => k_is); (case x_NoText_h => k_is); (case t_NoText_NoPlan => k_is); (case t_NoText_NoRow => k_is); (case t_NoText_Wrong => k_is); (case c_NoText_StoneError => k_is)




