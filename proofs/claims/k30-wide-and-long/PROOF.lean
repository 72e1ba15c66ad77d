import PyProof.Rows.All
import Wide.All
import OpenK.AllK
import Wide.FinOn
import HandS.ForMost
import HandS.Exc
import HandS.TryOnly
import HandS.ExcOwn
import HandS.WordsExc
import HandS.Wide
import HandS.Deep
import HandS.TupAny
import HandS.SortInts
import HandS.Style
import HandS.IsInst
import HandS.Conv
import HandS.Keys
import HandS.TupSets
import HandS.SetFor
import HandS.ExcInit
import HandS.ExcIs
import HandS.ExcField
import HandS.HotCalls
import HandS.SortKw
import KE.GoesEnumKw
import HandS.Dict
import HandS.More
import PyProof.EqAt
import HandS.DictTup
import HandS.Small
import HandS.Strs
import PyProof.DictMoreH
import HandS.Iter
import HandS.Walk
import HandS.TupLen
import HandS.SortRule
import HandS.Codes
import HandS.TryMany
import HandS.List
import KE.KDictPairs
import KE.KDictCopyH
import KE.KDictSum
import KE.KStateDown
import HandS.Base
import HandS.Call
import HandS.Ends
import HandS.Head0
import HandS.Head1
import HandS.Head2
import HandS.HeadEnd
import HandS.HeadHook1
import PyProof.EqKinds
import PyProof.TupleCall
import KE.KRevSl
import KE.KxPercent
import HandS.DictComp
import KE.KEqDict
import PyProof.StrOps2
import PySem.Challenge.RW_bedstone_k30_wide_and_long
set_option Elab.async false
set_option linter.all false
set_option maxRecDepth 100000
set_option maxHeartbeats 2000000
namespace QV
open PySem L2

inductive Lab where
  | fr | base | sl (i : Nat) | tm (k : Nat)
  deriving DecidableEq
abbrev Ow := Addr → Lab

inductive Kd where
  | lst | tup | dK (ks : List Key) | dT (ks : List (List Key)) | lkT (o : Obj) (ks : List (List Key)) | ins (C : Addr) (ks : List Str) | lsA (b : Addr)
inductive D where
  | non | bl (b : Bool) | int (i : Int) | str (x : Str) | scr (ns : List Int) | nd (k : Kd) (ds : List D) | exc (a C : Addr) (d : Option Addr) (ks : List Str) (ds : List D)
inductive T where
  | fz (d : D) | ow (k : Kd) (ds : List D) | nd (k : Kd) (ts : List T)
abbrev Env := List (Option T)

mutual
def T.d : T → D
  | .fz d => d
  | .ow k ds => .nd k ds
  | .nd k ts => .nd k (Tsd ts)
def Tsd : List T → List D
  | [] => []
  | t :: ts => T.d t :: Tsd ts
end
theorem tsd_map : ∀ ts : List T, Tsd ts = ts.map T.d
  | [] => rfl
  | t :: ts => by rw [Tsd, tsd_map ts]; rfl
def Bs (H : Hp) (ow : Ow) : Hp := fun a => if ow a = .base then H a else match H a with
  | some (.tup vs) => some (.tup vs)
  | _ => none
theorem bs_of {H : Hp} {ow : Ow} {a : Addr} (h : ow a = .base) : Bs H ow a = H a := if_pos h
theorem bs_some {H : Hp} {ow : Ow} {a : Addr} {o : HO} (h : Bs H ow a = some o) : (ow a = .base ∨ ∃ vs, o = .tup vs) ∧ H a = some o := by
  unfold Bs at h
  by_cases e : ow a = .base
  · rw [if_pos e] at h; exact ⟨.inl e, h⟩
  · rw [if_neg e] at h
    split at h
    · rename_i vs e2
      cases h
      exact ⟨.inr ⟨vs, rfl⟩, e2⟩
    · cases h
theorem bs_tup {H : Hp} {ow : Ow} {a : Addr} {vs : List V} (h : H a = some (.tup vs)) : Bs H ow a = some (.tup vs) := by
  unfold Bs
  by_cases e : ow a = .base
  · rw [if_pos e]; exact h
  · rw [if_neg e, h]
theorem bs_map {H H' : Hp} {ow ow' : Ow} (f : ∀ a o, H a = some o → ow a = .base → H' a = some o ∧ ow' a = .base) (g : ∀ a vs, H a = some (.tup vs) → H' a = some (.tup vs)) : Same (Bs H ow) (Bs H' ow') := fun a o e => by
  obtain ⟨e1 | ⟨vs, rfl⟩, e2⟩ := bs_some e
  · obtain ⟨h1, h2⟩ := f a o e2 e1
    rw [bs_of h2]
    exact h1
  · exact bs_tup (g a vs e2)
theorem bs_lab {H : Hp} {ow ow' : Ow} (f : ∀ a, ow a = .base → ow' a = .base) : Same (Bs H ow) (Bs H ow') := bs_map (fun a _ e q => ⟨e, f a q⟩) fun _ _ e => e
def HOof (k : Kd) (dx : Addr) (vs : List V) : HO := match k with
  | .lst => .lst vs
  | .tup => .tup vs
  | .dK ks => .dK (ks.zip vs)
  | .dT ks => .dT (ks.zip vs)
  | .lkT o ks => .frz o (.dT (ks.zip vs))
  | .lsA _ => .lst vs
  | .ins C ks => .ins C dx (ks.zip vs)
def Fits (H : Hp) (a dx : Addr) (k : Kd) (vs : List V) : Prop := match k with
  | .lst => True
  | .tup => True
  | .dK ks => ks.length = vs.length
  | .dT ks => ks.length = vs.length
  | .lkT _ ks => ks.length = vs.length
  | .lsA b => b = a
  | .ins _ ks => ks.length = vs.length ∧ H dx = some (.own a) ∧ dx ≠ a
structure Cell (H : Hp) (a dx : Addr) (k : Kd) (vs : List V) : Prop where
  at_ : H a = some (HOof k dx vs)
  sz : vs.length ≤ sizeLine
  fit : Fits H a dx k vs
def Foot (a dx : Addr) (k : Kd) (b : Addr) : Prop := match k with
  | .ins _ _ => b = a ∨ b = dx
  | _ => b = a
theorem foot_a {a dx : Addr} {k : Kd} : Foot a dx k a := by cases k <;> first | rfl | exact .inl rfl

section
variable {K : PySem.W.Frag}
mutual
inductive Rp (K : PySem.W.Frag) (B : Hp) : V → D → Prop
  | non : Rp K B .non .non
  | bl (b : Bool) : Rp K B (.bl b) (.bl b)
  | int (i : Int) : Rp K B (.int i) (.int i)
  | str (x : Str) : Rp K B (.str x) (.str x)
  | scr {a : Addr} {ns : List Int} : SqL K B a (ns.map V.int) → Rp K B (.ref a) (.scr ns)
  | exc0 (a C : Addr) : Rp K B (.ref a) (.exc a C none [] [])
  | exc1 {a C dd : Addr} {ks : List Str} {vs : List V} {ds : List D} : B dd = some (.xd (ks.zip vs)) → ks.length = vs.length → Rps K B vs ds → Rp K B (.ref a) (.exc a C (some dd) ks ds)
  | tup {a : Addr} {vs : List V} {ds : List D} : B a = some (.tup vs) → vs.length ≤ sizeLine → Rps K B vs ds → Rp K B (.ref a) (.nd .tup ds)
  | cell {a dx : Addr} {k : Kd} {vs : List V} {ds : List D} : k ≠ .tup → Cell B a dx k vs → Rps K B vs ds → Rp K B (.ref a) (.nd k ds)
inductive Rps (K : PySem.W.Frag) (B : Hp) : List V → List D → Prop
  | nil : Rps K B [] []
  | cons {v : V} {d : D} {vs : List V} {ds : List D} : Rp K B v d → Rps K B vs ds → Rps K B (v :: vs) (d :: ds)
end

theorem Cell.mono {B B' : Hp} (e : Same B B') {a dx : Addr} {k : Kd} {vs : List V} (c : Cell B a dx k vs) : Cell B' a dx k vs := by
  refine ⟨e _ _ c.at_, c.sz, ?_⟩
  have f := c.fit
  cases k with
  | ins C ks => exact ⟨f.1, e _ _ f.2.1, f.2.2⟩
  | _ => exact f
theorem sqT_of {K : PySem.W.Frag} {H : Hp} {a : Addr} {xs : List V} (h : H a = some (.tup xs)) : SqT K H a xs := .inl (.inl h)
theorem sqT_mono {B B' : Hp} (e : Same B B') {a : Addr} {xs : List V} (h : SqT K B a xs) : SqT K B' a xs := by
  rcases h with (h | ⟨o, h⟩) | h
  · exact .inl (.inl (e _ _ h))
  · exact .inl (.inr ⟨o, e _ _ h⟩)
  · exact .inr h
mutual
theorem Rp.mono {B B' : Hp} (e : Same B B') : ∀ {v : V} {d : D}, Rp K B v d → Rp K B' v d
  | _, _, .non => .non
  | _, _, .bl b => .bl b
  | _, _, .int i => .int i
  | _, _, .str x => .str x
  | _, _, .scr h => .scr (e.seq h)
  | _, _, .exc0 a C => .exc0 a C
  | _, _, .exc1 h l r => .exc1 (e _ _ h) l (Rps.mono e r)
  | _, _, .tup h z r => .tup (e _ _ h) z (Rps.mono e r)
  | _, _, .cell n c r => .cell n (c.mono e) (Rps.mono e r)
theorem Rps.mono {B B' : Hp} (e : Same B B') : ∀ {vs : List V} {ds : List D}, Rps K B vs ds → Rps K B' vs ds
  | _, _, .nil => .nil
  | _, _, .cons r t => .cons (Rp.mono e r) (Rps.mono e t)
end
theorem Rps.len {B : Hp} : ∀ {vs : List V} {ds : List D}, Rps K B vs ds → vs.length = ds.length
  | _, _, .nil => rfl
  | _, _, .cons _ t => by rw [List.length_cons, List.length_cons, Rps.len t]
theorem Rps.get {B : Hp} : ∀ {vs : List V} {ds : List D} {i : Nat} {d : D}, Rps K B vs ds → ds[i]? = some d → ∃ v, vs[i]? = some v ∧ Rp K B v d
  | _, _, _, _, .nil, e => by simp at e
  | _, _, 0, _, .cons r _, e => by simp at e; subst e; exact ⟨_, rfl, r⟩
  | _, _, i + 1, d, .cons _ t, e => by
    obtain ⟨v, h1, h2⟩ := Rps.get (i := i) (d := d) t (by simpa using e)
    exact ⟨v, by simpa using h1, h2⟩
theorem Rps.app {B : Hp} : ∀ {vs ws : List V} {ds es : List D}, Rps K B vs ds → Rps K B ws es → Rps K B (vs ++ ws) (ds ++ es)
  | _, _, _, _, .nil, s => s
  | _, _, _, _, .cons r t, s => .cons r (Rps.app t s)
theorem Rps.take {B : Hp} : ∀ {vs : List V} {ds : List D} (n : Nat), Rps K B vs ds → Rps K B (vs.take n) (ds.take n)
  | _, _, 0, _ => by simpa using Rps.nil
  | _, _, _ + 1, .nil => .nil
  | _, _, n + 1, .cons r t => .cons r (Rps.take n t)
theorem Rps.drop {B : Hp} : ∀ {vs : List V} {ds : List D} (n : Nat), Rps K B vs ds → Rps K B (vs.drop n) (ds.drop n)
  | _, _, 0, r => r
  | _, _, _ + 1, .nil => .nil
  | _, _, n + 1, .cons _ t => Rps.drop n t
theorem Rps.set {B : Hp} {v : V} {d : D} (q : Rp K B v d) : ∀ {vs : List V} {ds : List D} (n : Nat), Rps K B vs ds → Rps K B (vs.set n v) (ds.set n d)
  | _, _, _, .nil => .nil
  | _, _, 0, .cons _ t => .cons q t
  | _, _, n + 1, .cons r t => .cons r (Rps.set q n t)
theorem Rps.rev {B : Hp} : ∀ {vs : List V} {ds : List D}, Rps K B vs ds → Rps K B vs.reverse ds.reverse
  | _, _, .nil => .nil
  | _, _, .cons r t => by
    rw [List.reverse_cons, List.reverse_cons]
    exact Rps.app (Rps.rev t) (.cons r .nil)

theorem Rp.cellOf {B : Hp} {a dx : Addr} {k : Kd} {vs : List V} {ds : List D} (c : Cell B a dx k vs) (rs : Rps K B vs ds) : Rp K B (.ref a) (.nd k ds) := by
  by_cases hk : k = .tup
  · subst hk
    exact .tup c.at_ c.sz rs
  · exact .cell hk c rs

mutual
inductive Tp (K : PySem.W.Frag) (H : Hp) (ow : Ow) (l : Lab) : V → T → (Addr → Prop) → Prop
  | fz {v : V} {d : D} : Rp K (Bs H ow) v d → Tp K H ow l v (.fz d) (fun _ => False)
  | ow {a dx : Addr} {k : Kd} {vs : List V} {ds : List D} : Cell H a dx k vs → (∀ b, Foot a dx k b → ow b = l) → Rps K (Bs H ow) vs ds → Tp K H ow l (.ref a) (.ow k ds) (Foot a dx k)
  | nd {a dx : Addr} {k : Kd} {vs : List V} {ts : List T} {S : Addr → Prop} : Cell H a dx k vs → (∀ b, Foot a dx k b → ow b = l ∧ ¬ S b) → Tps K H ow l vs ts S → Tp K H ow l (.ref a) (.nd k ts) (fun b => Foot a dx k b ∨ S b)
inductive Tps (K : PySem.W.Frag) (H : Hp) (ow : Ow) (l : Lab) : List V → List T → (Addr → Prop) → Prop
  | nil : Tps K H ow l [] [] (fun _ => False)
  | cons {v : V} {t : T} {vs : List V} {ts : List T} {S1 S2 : Addr → Prop} : Tp K H ow l v t S1 → Tps K H ow l vs ts S2 → (∀ b, S1 b → ¬ S2 b) → Tps K H ow l (v :: vs) (t :: ts) (fun b => S1 b ∨ S2 b)
end
def Tq (K : PySem.W.Frag) (H : Hp) (ow : Ow) (l : Lab) (v : V) (t : T) : Prop := ∃ S, Tp K H ow l v t S

theorem Cell.there {H : Hp} {a dx : Addr} {k : Kd} {vs : List V} (c : Cell H a dx k vs) {b : Addr} (f : Foot a dx k b) : ∃ o, H b = some o := by
  cases k with
  | ins C ks =>
    rcases f with rfl | rfl
    · exact ⟨_, c.at_⟩
    · exact ⟨_, c.fit.2.1⟩
  | _ =>
    have f' : b = a := f
    subst f'
    exact ⟨_, c.at_⟩
theorem Cell.at_same {H H' : Hp} {a dx : Addr} {k : Kd} {vs : List V} (c : Cell H a dx k vs) (e : ∀ b o, Foot a dx k b → H b = some o → H' b = some o) : Cell H' a dx k vs := by
  refine ⟨e a _ foot_a c.at_, c.sz, ?_⟩
  have f := c.fit
  cases k with
  | ins C ks => exact ⟨f.1, e _ _ (.inr rfl) f.2.1, f.2.2⟩
  | _ => exact f
mutual
theorem Tp.there {H : Hp} {ow : Ow} {l : Lab} : ∀ {v : V} {t : T} {S : Addr → Prop}, Tp K H ow l v t S → ∀ b, S b → ow b = l ∧ ∃ o, H b = some o
  | _, _, _, .fz _, _, h => h.elim
  | _, _, _, .ow c f r, b, h => ⟨f b h, c.there h⟩
  | _, _, _, .nd c f r, b, h => by
    rcases h with h | h
    · exact ⟨(f b h).1, c.there h⟩
    · exact Tps.there r b h
theorem Tps.there {H : Hp} {ow : Ow} {l : Lab} : ∀ {v : List V} {t : List T} {S : Addr → Prop}, Tps K H ow l v t S → ∀ b, S b → ow b = l ∧ ∃ o, H b = some o
  | _, _, _, .nil, _, h => h.elim
  | _, _, _, .cons r s _, b, h => by
    rcases h with h | h
    · exact Tp.there r b h
    · exact Tps.there s b h
end
structure Car (H H' : Hp) (ow ow' : Ow) (l l' : Lab) : Prop where
  bs : Same (Bs H ow) (Bs H' ow')
  own : ∀ a o, H a = some o → ow a = l → H' a = some o ∧ ow' a = l'
mutual
theorem Tp.car {H H' : Hp} {ow ow' : Ow} {l l' : Lab} : ∀ {v : V} {t : T} {S : Addr → Prop}, (Same (Bs H ow) (Bs H' ow')) → (∀ a o, S a → H a = some o → ow a = l → H' a = some o ∧ ow' a = l') → Tp K H ow l v t S → Tp K H' ow' l' v t S
  | _, _, _, e, _, .fz r => .fz (r.mono e)
  | _, _, _, e, k, .ow c f r => .ow (c.at_same fun b o fb q => (k b o fb q (f b fb)).1) (fun b fb => let ⟨o, q⟩ := c.there fb; (k b o fb q (f b fb)).2) (r.mono e)
  | _, _, _, e, k, .nd c f r => .nd (c.at_same fun b o fb q => (k b o (.inl fb) q (f b fb).1).1)
      (fun b fb => let ⟨o, q⟩ := c.there fb; ⟨(k b o (.inl fb) q (f b fb).1).2, (f b fb).2⟩) (Tps.car e (fun b o s => k b o (.inr s)) r)
theorem Tps.car {H H' : Hp} {ow ow' : Ow} {l l' : Lab} : ∀ {v : List V} {t : List T} {S : Addr → Prop}, (Same (Bs H ow) (Bs H' ow')) → (∀ a o, S a → H a = some o → ow a = l → H' a = some o ∧ ow' a = l') → Tps K H ow l v t S → Tps K H' ow' l' v t S
  | _, _, _, _, _, .nil => .nil
  | _, _, _, e, k, .cons r s d => .cons (Tp.car e (fun b o q => k b o (.inl q)) r) (Tps.car e (fun b o q => k b o (.inr q)) s) d
end
theorem Car.tp {H H' : Hp} {ow ow' : Ow} {l l' : Lab} (c : Car H H' ow ow' l l') {v : V} {t : T} {S : Addr → Prop} (h : Tp K H ow l v t S) : Tp K H' ow' l' v t S := h.car c.bs fun a o _ => c.own a o
theorem Car.tq {H H' : Hp} {ow ow' : Ow} {l l' : Lab} (c : Car H H' ow ow' l l') {v : V} {t : T} (h : Tq K H ow l v t) : Tq K H' ow' l' v t := h.imp fun _ => c.tp

mutual
theorem Tp.all {H B : Hp} {ow : Ow} {l : Lab} : ∀ {v : V} {t : T} {S : Addr → Prop}, Same (Bs H ow) B → (∀ a o, S a → H a = some o → ow a = l → B a = some o) → Tp K H ow l v t S → Rp K B v t.d
  | _, .fz _, _, e, _, .fz r => r.mono e
  | _, .ow kd ds, _, e, k, .ow c f r => Rp.cellOf (c.at_same (H' := B) fun b o fb q => k b o fb q (f b fb)) (r.mono e)
  | _, .nd kd ts, _, e, k, .nd c f r => by
    have c' := c.at_same (H' := B) fun b o fb q => k b o (.inl fb) q (f b fb).1
    have rs := Tps.all e (fun b o s => k b o (.inr s)) r
    exact Rp.cellOf c' rs
theorem Tps.all {H B : Hp} {ow : Ow} {l : Lab} : ∀ {v : List V} {t : List T} {S : Addr → Prop}, Same (Bs H ow) B → (∀ a o, S a → H a = some o → ow a = l → B a = some o) → Tps K H ow l v t S → Rps K B v (Tsd t)
  | _, _, _, _, _, .nil => .nil
  | _, _, _, e, k, .cons r s _ => .cons (Tp.all e (fun b o q => k b o (.inl q)) r) (Tps.all e (fun b o q => k b o (.inr q)) s)
end
theorem bs_same (H : Hp) (ow : Ow) : Same (Bs H ow) H := fun _ _ e => (bs_some e).2
theorem Tq.rd {H : Hp} {ow : Ow} {l : Lab} {v : V} {t : T} (h : Tq K H ow l v t) : Rp K H v t.d :=
  let ⟨_, h⟩ := h; h.all (bs_same H ow) fun _ _ _ q _ => q
theorem Tps.len {H : Hp} {ow : Ow} {l : Lab} : ∀ {vs : List V} {ts : List T} {S : Addr → Prop}, Tps K H ow l vs ts S → vs.length = ts.length
  | _, _, _, .nil => rfl
  | _, _, _, .cons _ t _ => by rw [List.length_cons, List.length_cons, Tps.len t]
end
end QV

set_option Elab.async false
set_option linter.all false
set_option maxRecDepth 100000
set_option maxHeartbeats 2000000
namespace QV
open PySem L2

structure Rz where
  C : Addr
  ks : List Str
  ds : List D
abbrev XQ := Rz → Env → Prop
abbrev SemE := Env → (T → Env → Prop) → XQ → Prop
abbrev SemP := Env → (T → List Nat → Env → Prop) → XQ → Prop
abbrev SemT := Env → (Bool → Env → Prop) → XQ → Prop
section
variable {K : PySem.W.Frag} {H H' H1 H2 : Hp} {ow ow' ow1 ow2 : Ow} {l l' : Lab} {v : V} {t : T} {M M' M1 M2 : List Nat} {n n' n1 n2 : Nat} {σ : L2.St} {env env' : Env} {p a : Addr} {o : HO}

structure StOk (K : PySem.W.Frag) (H : Hp) (ow : Ow) (σ : L2.St) (env : Env) : Prop where
  len : env.length = σ.length
  at_ : ∀ (i : Nat) (t : T), env[i]? = some (some t) → ∃ v, σ[i]? = some (some v) ∧ Tq K H ow (.sl i) v t
def Prot (M : List Nat) (n : Nat) : Lab → Prop
  | .fr => True
  | .base => True
  | .sl i => i ∉ M
  | .tm k => k < n
theorem Prot.mono (hM : ∀ i ∈ M', i ∈ M) (hn : n ≤ n') (h : Prot M n l) : Prot M' n' l := by
  cases l with
  | sl i => exact fun q => h (hM i q)
  | tm k => exact Nat.lt_of_lt_of_le h hn
  | _ => trivial
structure Stp (M : List Nat) (n : Nat) (H : Hp) (ow : Ow) (H' : Hp) (ow' : Ow) : Prop where
  go : ∀ a o, H a = some o → Prot M n (ow a) → H' a = some o ∧ ow' a = ow a
  tp : ∀ a vs, H a = some (.tup vs) → H' a = some (.tup vs)
instance : CoeFun (Stp M n H ow H' ow') (fun _ => ∀ a o, H a = some o → Prot M n (ow a) → H' a = some o ∧ ow' a = ow a) := ⟨Stp.go⟩
structure Out (M : List Nat) (env env' : Env) : Prop where
  len : env'.length = env.length
  eq : ∀ i, i ∉ M → env'[i]? = env[i]?
theorem Stp.refl : Stp M n H ow H ow := ⟨fun _ _ h _ => ⟨h, rfl⟩, fun _ _ h => h⟩
theorem Stp.trans (x : Stp M1 n1 H ow H1 ow1) (y : Stp M2 n2 H1 ow1 H2 ow2) (h1 : ∀ i ∈ M1, i ∈ M) (h2 : ∀ i ∈ M2, i ∈ M) (k1 : n ≤ n1) (k2 : n ≤ n2) : Stp M n H ow H2 ow2 := ⟨fun a o e q => by
  obtain ⟨e1, q1⟩ := x a o e (q.mono h1 k1)
  obtain ⟨e2, q2⟩ := y a o e1 (by rw [q1]; exact q.mono h2 k2)
  exact ⟨e2, q2.trans q1⟩, fun a vs e => y.tp a vs (x.tp a vs e)⟩
theorem Stp.mono (x : Stp M1 n1 H ow H1 ow1) (h1 : ∀ i ∈ M1, i ∈ M) (k1 : n ≤ n1) : Stp M n H ow H1 ow1 := ⟨fun a o e q => x a o e (q.mono h1 k1), x.tp⟩
theorem Out.refl : Out M env env := ⟨rfl, fun _ _ => rfl⟩
theorem Out.trans {e1 e2 e3 : Env} (x : Out M1 e1 e2) (y : Out M2 e2 e3) (h1 : ∀ i ∈ M1, i ∈ M) (h2 : ∀ i ∈ M2, i ∈ M) : Out M e1 e3 := ⟨y.len.trans x.len, fun i hi => (y.eq i fun z => hi (h2 i z)).trans (x.eq i fun z => hi (h1 i z))⟩
theorem Out.mono {e1 e2 : Env} (x : Out M1 e1 e2) (h1 : ∀ i ∈ M1, i ∈ M) : Out M e1 e2 := ⟨x.len, fun i hi => x.eq i fun z => hi (h1 i z)⟩
theorem Out.set1 {i : Nat} {x : Option T} : Out [i] env (env.set i x) := ⟨List.length_set, fun j hj => List.getElem?_set_ne (fun z => hj (by simp [z]))⟩
theorem Stp.bs (x : Stp M n H ow H' ow') : Same (Bs H ow) (Bs H' ow') := bs_map (fun a o e q => by
  obtain ⟨h1, h2⟩ := x a o e (by rw [q]; trivial)
  exact ⟨h1, h2.trans q⟩) x.tp
theorem Stp.car (x : Stp M n H ow H' ow') (h : Prot M n l) : Car H H' ow ow' l l := ⟨x.bs, fun a o e q => by
  obtain ⟨h1, h2⟩ := x a o e (by rw [q]; exact h)
  exact ⟨h1, h2.trans q⟩⟩
theorem StOk.stp (s : StOk K H ow σ env) (x : Stp M n H ow H' ow') (out : Out M env env') (k : ∀ i t, i ∈ M → env'[i]? = some (some t) → ∃ v, σ[i]? = some (some v) ∧ Tq K H' ow' (.sl i) v t) : StOk K H' ow' σ env' := ⟨out.len.trans s.len, fun i t e => by
  by_cases h : i ∈ M
  · exact k i t h e
  · rw [out.eq i h] at e
    obtain ⟨v, q, r⟩ := s.at_ i t e
    exact ⟨v, q, (x.car (l := .sl i) h).tq r⟩⟩
theorem StOk.stp0 (s : StOk K H ow σ env) (x : Stp [] n H ow H' ow') : StOk K H' ow' σ env := s.stp x Out.refl fun _ _ h => nomatch h

def Ow.put (ow : Ow) (p : Addr) (l : Lab) : Ow := fun b => if b = p then l else ow b
theorem put_same : Ow.put ow p l p = l := if_pos rfl
theorem put_ne {b : Addr} (h : b ≠ p) : Ow.put ow p l b = ow b := if_neg h
theorem Stp.new (h : H p = none) : Stp M n H ow (upd H p o) (Ow.put ow p l) := ⟨fun a u e _ => by
  have ne := ne_of_none e h
  exact ⟨by rw [upd_ne ne]; exact e, put_ne ne⟩, fun a vs e => by rw [upd_ne (ne_of_none e h)]; exact e⟩
theorem Tq.newL {vs : List V} {ds : List D} (h : H p = none) (z : vs.length ≤ sizeLine) (r : Rps K (Bs H ow) vs ds) : Tq K (upd H p (.lst vs)) (Ow.put ow p l) l (.ref p) (.ow .lst ds) :=
  ⟨_, .ow (dx := p) ⟨upd_same, z, trivial⟩ (fun b fb => by
    have e : b = p := fb
    rw [e]; exact put_same) (r.mono (Stp.bs (M := []) (n := 0) (Stp.new h)))⟩
theorem Tq.newT {vs : List V} {ds : List D} (h : H p = none) (z : vs.length ≤ sizeLine) (r : Rps K (Bs H ow) vs ds) : Tq K (upd H p (.tup vs)) (Ow.put ow p l) l (.ref p) (.ow .tup ds) :=
  ⟨_, .ow (dx := p) ⟨upd_same, z, trivial⟩ (fun b fb => by
    have e : b = p := fb
    rw [e]; exact put_same) (r.mono (Stp.bs (M := []) (n := 0) (Stp.new h)))⟩
def Ow.mv (ow : Ow) (l l' : Lab) : Ow := fun b => if ow b = l then l' else ow b
theorem mv_eq {b : Addr} (h : ow b = l) : Ow.mv ow l l' b = l' := if_pos h
theorem mv_ne {b : Addr} (h : ow b ≠ l) : Ow.mv ow l l' b = ow b := if_neg h
theorem Stp.mv (h : ¬ Prot M n l) : Stp M n H ow H (Ow.mv ow l l') := ⟨fun a u e q => ⟨e, mv_ne fun z => h (z ▸ q)⟩, fun _ _ e => e⟩
theorem bs_mv (h : l ≠ .base) : Same (Bs H ow) (Bs H (Ow.mv ow l l')) := bs_lab fun a e1 => by rw [mv_ne (by rw [e1]; exact fun z => h z.symm)]; exact e1
theorem Tq.mv (h : l ≠ .base) (r : Tq K H ow l v t) : Tq K H (Ow.mv ow l l') l' v t := Car.tq ⟨bs_mv h, fun _ _ e q => ⟨e, mv_eq q⟩⟩ r
theorem Tq.frz (h : l ≠ .base) (r : Tq K H ow l v t) : Rp K (Bs H (Ow.mv ow l .base)) v t.d :=
  let ⟨_, r⟩ := r; r.all (bs_mv h) fun a o _ e q => by rw [bs_of (mv_eq q)]; exact e
theorem Tq.fz_ {d : D} : Tq K H ow l v (.fz d) ↔ Rp K (Bs H ow) v d := ⟨fun ⟨_, h⟩ => by cases h; assumption, fun h => ⟨_, .fz h⟩⟩
theorem not_tm : ¬ Prot M n (.tm n) := Nat.lt_irrefl n
theorem not_sl {i : Nat} (h : i ∈ M) : ¬ Prot M n (.sl i) := fun q => q h

theorem zip_inj {α β : Type} : ∀ {ks : List α} {vs ws : List β}, ks.length = vs.length → ks.length = ws.length → ks.zip vs = ks.zip ws → vs = ws
  | [], [], [], _, _, _ => rfl
  | k :: ks, v :: vs, w :: ws, h1, h2, h => by
    rw [List.zip_cons_cons, List.zip_cons_cons] at h
    obtain ⟨e1, e2⟩ := List.cons.inj h
    rw [(Prod.mk.inj e1).2, zip_inj (Nat.succ.inj h1) (Nat.succ.inj h2) e2]
theorem Cell.inj {dx dx' : Addr} {k : Kd} {vs ws : List V} (c : Cell H a dx k vs) (c' : Cell H a dx' k ws) : vs = ws := by
  have e := Option.some.inj (c.at_.symm.trans c'.at_)
  cases k with
  | lst => exact HO.lst.inj e
  | tup => exact HO.tup.inj e
  | dK ks => exact zip_inj c.fit c'.fit (HO.dK.inj e)
  | dT ks => exact zip_inj c.fit c'.fit (HO.dT.inj e)
  | lkT o ks => exact zip_inj c.fit c'.fit (HO.dT.inj (HO.frz.inj e).2)
  | lsA b => exact HO.lst.inj e
  | ins C ks => exact zip_inj c.fit.1 c'.fit.1 (HO.ins.inj e).2.2
inductive Sub (K : PySem.W.Frag) (H : Hp) (ow : Ow) (l : Lab) : V → T → List Nat → V → T → Prop
  | nil {v : V} {t : T} : Sub K H ow l v t [] v t
  | cons {a dx : Addr} {k : Kd} {vs : List V} {ts : List T} {j : Nat} {p : List Nat} {v1 v : V} {t1 t : T} : Cell H a dx k vs → (∀ b, Foot a dx k b → ow b = l) → vs[j]? = some v1 → ts[j]? = some t1 → Sub K H ow l v1 t1 p v t → Sub K H ow l (.ref a) (.nd k ts) (j :: p) v t
theorem Tps.get : ∀ {vs : List V} {ts : List T} {S : Addr → Prop} {j : Nat} {v : V} {t : T}, Tps K H ow l vs ts S → vs[j]? = some v → ts[j]? = some t → ∃ S', Tp K H ow l v t S'
  | _, _, _, _, _, _, .nil, e, _ => by simp at e
  | _, _, _, 0, _, _, .cons r _ _, e, e' => by simp at e e'; subst e e'; exact ⟨_, r⟩
  | _, _, _, j + 1, v, t, .cons _ s _, e, e' => Tps.get (j := j) s (by simpa using e) (by simpa using e')
theorem Sub.tq {v0 v : V} {t0 t : T} {pt : List Nat} (s : Sub K H ow l v0 t0 pt v t) : Tq K H ow l v0 t0 → Tq K H ow l v t := by
  induction s with
  | nil => exact id
  | cons c f e1 e2 _ ih =>
    rintro ⟨S, r⟩
    cases r with
    | nd c' f' r' =>
      have e := c'.inj c
      subst e
      obtain ⟨S', r1⟩ := r'.get e1 e2
      exact ih ⟨S', r1⟩
theorem Sub.car {v0 v : V} {t0 t : T} {pt : List Nat} (c : Car H H' ow ow' l l') (s : Sub K H ow l v0 t0 pt v t) : Sub K H' ow' l' v0 t0 pt v t := by
  induction s with
  | nil => exact .nil
  | cons q f e1 e2 _ ih => exact .cons (q.at_same fun b o fb e => (c.own b o e (f b fb)).1) (fun b fb => let ⟨o, e⟩ := q.there fb; (c.own b o e (f b fb)).2) e1 e2 ih
def Plc (K : PySem.W.Frag) (H : Hp) (ow : Ow) (σ : L2.St) (env : Env) (n : Nat) (root : Option Nat) (v : V) (t : T) (pt : List Nat) : Prop :=
  (∃ d, t = .fz d ∧ Rp K (Bs H ow) v d) ∨ (root = none ∧ Tq K H ow (.tm n) v t) ∨
    ∃ i v0 t0, root = some i ∧ σ[i]? = some (some v0) ∧ env[i]? = some (some t0) ∧ Sub K H ow (.sl i) v0 t0 pt v t
def Ro (K : PySem.W.Frag) (H : Hp) (ow : Ow) (v : V) (t : T) : Prop := ∃ l, Tq K H ow l v t
theorem Plc.ro {root : Option Nat} {pt : List Nat} (s : StOk K H ow σ env) (h : Plc K H ow σ env n root v t pt) : Ro K H ow v t := by
  rcases h with ⟨d, rfl, r⟩ | ⟨_, r⟩ | ⟨i, v0, t0, _, e1, e2, r⟩
  · exact ⟨.fr, Tq.fz_.mpr r⟩
  · exact ⟨_, r⟩
  · obtain ⟨w, e3, q⟩ := s.at_ i t0 e2
    rw [e1] at e3
    cases e3
    exact ⟨_, r.tq q⟩
def okR (r : Option Nat) (M : List Nat) : Bool := match r with
  | none => true
  | some i => decide (i ∉ M)
theorem Plc.stp {root : Option Nat} {pt : List Nat} (h : Plc K H ow σ env n root v t pt) (x : Stp M n' H ow H' ow') (out : Out M env env') (hr : okR root M = true) (hn : n < n') : Plc K H' ow' σ env' n root v t pt := by
  rcases h with ⟨d, rfl, r⟩ | ⟨e, r⟩ | ⟨i, v0, t0, rfl, e1, e2, r⟩
  · exact .inl ⟨d, rfl, r.mono x.bs⟩
  · exact .inr (.inl ⟨e, (x.car (l := .tm n) hn).tq r⟩)
  · have hi : i ∉ M := of_decide_eq_true hr
    exact .inr (.inr ⟨i, v0, t0, rfl, e1, (out.eq i hi).trans e2, r.car (x.car (l := .sl i) hi)⟩)
theorem Ro.rd (h : Ro K H ow v t) : Rp K H v t.d := let ⟨_, h⟩ := h; h.rd

def Rzp (K : PySem.W.Frag) (H : Hp) (ow : Ow) (d : Option Addr) (r : Rz) : Prop := match d with
  | some d => ∃ vs, Bs H ow d = some (.xd (r.ks.zip vs)) ∧ r.ks.length = vs.length ∧ Rps K (Bs H ow) vs r.ds
  | none => r.ks = [] ∧ r.ds = []
def Xk (K : PySem.W.Frag) (W : WX) (M : List Nat) (σ : L2.St) (H : Hp) (n : Nat) (ow : Ow) (env : Env) (E : XQ) : Prop :=
  ∀ (r : Rz) (d : Option Addr) (H' : Hp) (ow' : Ow) (env' : Env), Stp M n H ow H' ow' → StOk K H' ow' σ env' → Out M env env' → Rzp K H' ow' d r → E r env' → W (.ref r.C) d σ H'
def tP (K : PySem.W.Frag) (W : WX) (M : List Nat) (root : Option Nat) (q : SemP) : TE := fun σ H Qv => ∃ (n : Nat) (ow : Ow) (env : Env) (Q : T → List Nat → Env → Prop) (E : XQ), StOk K H ow σ env ∧ q env Q E ∧
  (∀ (v : V) (t : T) (pt : List Nat) (H' : Hp) (ow' : Ow) (env' : Env), Stp M n H ow H' ow' → StOk K H' ow' σ env' → Out M env env' → Plc K H' ow' σ env' n root v t pt → Q t pt env' → Qv v H') ∧ Xk K W M σ H n ow env E
def tQ (K : PySem.W.Frag) (W : WX) (M : List Nat) (q : SemE) : TE := fun σ H Qv => ∃ (n : Nat) (ow : Ow) (env : Env) (Q : T → Env → Prop) (E : XQ), StOk K H ow σ env ∧ q env Q E ∧
  (∀ (v : V) (t : T) (H' : Hp) (ow' : Ow) (env' : Env), Stp M n H ow H' ow' → StOk K H' ow' σ env' → Out M env env' → Tq K H' ow' (.tm n) v t → Q t env' → Qv v H') ∧ Xk K W M σ H n ow env E
def tT (K : PySem.W.Frag) (W : WX) (M : List Nat) (q : SemT) : TT := fun σ H Qv => ∃ (n : Nat) (ow : Ow) (env : Env) (Q : Bool → Env → Prop) (E : XQ), StOk K H ow σ env ∧ q env Q E ∧
  (∀ (b : Bool) (H' : Hp) (ow' : Ow) (env' : Env), Stp M n H ow H' ow' → StOk K H' ow' σ env' → Out M env env' → Q b env' → Qv b H') ∧ Xk K W M σ H n ow env E
theorem Xk.step {W : WX} {E : XQ} (k : Xk K W M σ H n ow env E) (x : Stp M1 n1 H ow H1 ow1) {env1 : Env} (out : Out M1 env env1) (h1 : ∀ i ∈ M1, i ∈ M) (h2 : ∀ i ∈ M2, i ∈ M) (k1 : n ≤ n1) (k2 : n ≤ n2) : Xk K W M2 σ H1 n2 ow1 env1 E :=
  fun r d H' ow' env' y s o2 z e => k r d H' ow' env' (x.trans y h1 h2 k1 k2) s (out.trans o2 h1 h2) z e
end

structure QP (X : Cx) (W : WX) (M : List Nat) (root : Option Nat) (e : Expr) (q : SemP) : Prop where
  run : PE X e (tP X.K W M root q)
structure QE (X : Cx) (W : WX) (M : List Nat) (e : Expr) (q : SemE) : Prop where
  run : PE X e (tQ X.K W M q)
structure QT (X : Cx) (W : WX) (M : List Nat) (e : Expr) (q : SemT) : Prop where
  run : PT X e (tT X.K W M q)
theorem PE_imp {X : Cx} {e : Expr} {t t' : TE} (h : PE X e t) (f : ∀ σ H Q, t' σ H Q → t σ H Q) : PE X e t' := ⟨fun pins s σ H Q I q => h.run pins s σ H Q I (f _ _ _ q)⟩
theorem PT_imp {X : Cx} {e : Expr} {t t' : TT} (h : PT X e t) (f : ∀ σ H Q, t' σ H Q → t σ H Q) : PT X e t' := ⟨fun pins s σ H Q I q => h.run pins s σ H Q I (f _ _ _ q)⟩
section
variable {X : Cx} {W : WX} {M M' Ma Mb : List Nat} {e a b : Expr} {q qa qb : SemE} {pa pb : SemP} {ra rb root : Option Nat} {pos : Pos}
theorem nilsub {M : List Nat} : ∀ i ∈ ([] : List Nat), i ∈ M := fun _ h => nomatch h
theorem subl {Ma Mb : List Nat} : ∀ i ∈ Ma, i ∈ Ma ++ Mb := fun _ h => List.mem_append_left _ h
theorem subr {Ma Mb : List Nat} : ∀ i ∈ Mb, i ∈ Ma ++ Mb := fun _ h => List.mem_append_right _ h
theorem QE.more (h : QE X W M e q) (hs : ∀ i ∈ M, i ∈ M') : QE X W M' e q := ⟨PE_imp h.run fun σ H Qv ⟨n, ow, env, Q, E, s, hq, k, x⟩ =>
  ⟨n, ow, env, Q, E, s, hq, fun v t H' ow' env' y s' o r z => k v t H' ow' env' (y.mono hs (Nat.le_refl _)) s' (o.mono hs) r z, fun r d H' ow' env' y s' o => x r d H' ow' env' (y.mono hs (Nat.le_refl _)) s' (o.mono hs)⟩⟩
theorem QT.more {q : SemT} (h : QT X W M e q) (hs : ∀ i ∈ M, i ∈ M') : QT X W M' e q := ⟨PT_imp h.run fun σ H Qv ⟨n, ow, env, Q, E, s, hq, k, x⟩ =>
  ⟨n, ow, env, Q, E, s, hq, fun v H' ow' env' y s' o z => k v H' ow' env' (y.mono hs (Nat.le_refl _)) s' (o.mono hs) z, fun r d H' ow' env' y s' o => x r d H' ow' env' (y.mono hs (Nat.le_refl _)) s' (o.mono hs)⟩⟩
def sPE (q : SemE) : SemP := fun env Q E => q env (fun t env' => Q t [] env') E
theorem QE.p (h : QE X W M e q) : QP X W M none e (sPE q) := ⟨PE_imp h.run fun σ H Qv ⟨n, ow, env, Q, E, s, hq, k, x⟩ =>
  ⟨n, ow, env, fun t env' => Q t [] env', E, s, hq, fun v t H' ow' env' y s' o r z => k v t [] H' ow' env' y s' o (.inr (.inl ⟨rfl, r⟩)) z, x⟩⟩
def sFz (q : SemE) : SemE := fun env Q E => q env (fun t env' => Q (.fz t.d) env') E
theorem QE.fz (h : QE X W M e q) : QE X W M e (sFz q) := ⟨PE_imp h.run fun σ H Qv ⟨n, ow, env, Q, E, s, hq, k, x⟩ =>
  ⟨n, ow, env, fun t env' => Q (.fz t.d) env', E, s, hq, fun v t H' ow' env' y s' o r z => by
    have y2 : Stp [] n H' ow' H' (Ow.mv ow' (.tm n) .base) := Stp.mv not_tm
    exact k v (.fz t.d) H' _ env' (y.trans y2 (fun _ h => h) nilsub (Nat.le_refl _) (Nat.le_refl _)) (s'.stp0 y2) o (Tq.fz_.mpr (r.frz (fun z => nomatch z))) z, x⟩⟩
def sEP (q : SemP) : SemE := fun env Q E => q env (fun t _ env' => match t with | .fz d => Q (.fz d) env' | _ => False) E
theorem QP.val (h : QP X W M root e pa) : QE X W M e (sEP pa) := ⟨PE_imp h.run fun σ H Qv ⟨n, ow, env, Q, E, s, hq, k, x⟩ =>
  ⟨n, ow, env, _, E, s, hq, fun v t pt H' ow' env' y s' o r z => by
    cases t with
    | fz d =>
      obtain ⟨l, r'⟩ := r.ro s'
      exact k v (.fz d) H' ow' env' y s' o (Tq.fz_.mpr (Tq.fz_.mp r')) z
    | ow _ _ => exact z.elim
    | nd _ _ => exact z.elim, x⟩⟩

def sNm (i : Nat) : SemP := fun env Q _ => match env[i]? with
  | some (some t) => Q t [] env
  | _ => False
theorem p_nm (i : Nat) {x : Str} (hN : X.N[i]? = some x := by rfl) (hv : Vis X.env.scope x := by first | exact Or.inl rfl | exact Or.inr (Or.inl rfl) | exact Or.inr (Or.inr rfl)) (hd : (x == ("__debug__" : Str)) = false := by decide)
    (hcd : (x == ("__classdict__" : Str)) = false := by decide) : QP X W [] (some i) (.Name x pos) (sNm i) := ⟨PE_imp (pe_var (i := i) hN hv hd hcd) fun σ H Qv ⟨n, ow, env, Q, E, s, hq, k, _⟩ => by
  unfold sNm at hq
  split at hq
  · rename_i t e
    obtain ⟨v, e1, r⟩ := s.at_ i t e
    exact ⟨v, e1, k v t [] H ow env Stp.refl s Out.refl (.inr (.inr ⟨i, v, t, rfl, e1, e, .nil⟩)) hq⟩
  · exact hq.elim⟩
def sC (d : D) : SemE := fun env Q _ => Q (.fz d) env
theorem q_const {v : V} {d : D} (h : PE X e (tC v)) (r : ∀ B, Rp X.K B v d) : QE X W [] e (sC d) := ⟨PE_imp h fun σ H Qv ⟨n, ow, env, Q, E, s, hq, k, _⟩ =>
  k v (.fz d) H ow env Stp.refl s Out.refl (Tq.fz_.mpr (r _)) hq⟩
theorem q_int {i : Int} {j} : QE X W [] (.Constant (.int i) j pos) (sC (.int i)) := q_const pe_int fun _ => .int i
theorem q_bl {i : Bool} {j} : QE X W [] (.Constant (.bool i) j pos) (sC (.bl i)) := q_const pe_bl fun _ => .bl i
theorem q_non {j} : QE X W [] (.Constant .none j pos) (sC .non) := q_const pe_non fun _ => .non
def sFzN (i : Nat) : SemE := fun env Q _ => match env[i]? with
  | some (some t) => Q (.fz t.d) (env.set i (some (.fz t.d)))
  | _ => False
theorem q_fzn (i : Nat) {x : Str} (hN : X.N[i]? = some x := by rfl) (hv : Vis X.env.scope x := by first | exact Or.inl rfl | exact Or.inr (Or.inl rfl) | exact Or.inr (Or.inr rfl)) (hd : (x == ("__debug__" : Str)) = false := by decide)
    (hcd : (x == ("__classdict__" : Str)) = false := by decide) : QE X W [i] (.Name x pos) (sFzN i) := ⟨PE_imp (pe_var (i := i) hN hv hd hcd) fun σ H Qv ⟨n, ow, env, Q, E, s, hq, k, _⟩ => by
  unfold sFzN at hq
  split at hq
  · rename_i t e
    obtain ⟨v, e1, r⟩ := s.at_ i t e
    have y : Stp [i] n H ow H (Ow.mv ow (.sl i) .base) := Stp.mv (not_sl (by simp))
    have fr := r.frz (by exact fun z => nomatch z)
    have hi : i < env.length := (List.getElem?_eq_some_iff.mp e).1
    refine ⟨v, e1, k v (.fz t.d) H _ _ y (s.stp y (Out.set1) fun j u hj e' => ?_) Out.set1 (Tq.fz_.mpr fr) hq⟩
    have ej : j = i := by simpa using hj
    subst ej
    rw [List.getElem?_set_self hi] at e'
    cases e'
    exact ⟨v, e1, Tq.fz_.mpr fr⟩
  · exact hq.elim⟩
def sMvN (i : Nat) : SemE := fun env Q _ => match env[i]? with
  | some (some t) => Q t (env.set i none)
  | _ => False
theorem q_mvn (i : Nat) {x : Str} (hN : X.N[i]? = some x := by rfl) (hv : Vis X.env.scope x := by first | exact Or.inl rfl | exact Or.inr (Or.inl rfl) | exact Or.inr (Or.inr rfl)) (hd : (x == ("__debug__" : Str)) = false := by decide)
    (hcd : (x == ("__classdict__" : Str)) = false := by decide) : QE X W [i] (.Name x pos) (sMvN i) := ⟨PE_imp (pe_var (i := i) hN hv hd hcd) fun σ H Qv ⟨n, ow, env, Q, E, s, hq, k, _⟩ => by
  unfold sMvN at hq
  split at hq
  · rename_i t e
    obtain ⟨v, e1, r⟩ := s.at_ i t e
    have y : Stp [i] n H ow H (Ow.mv ow (.sl i) (.tm n)) := Stp.mv (not_sl (by simp))
    have hi : i < env.length := (List.getElem?_eq_some_iff.mp e).1
    refine ⟨v, e1, k v t H _ _ y (s.stp y (Out.set1) fun j u hj e' => ?_) Out.set1 (r.mv (fun z => nomatch z)) hq⟩
    have ej : j = i := by simpa using hj
    subst ej
    rw [List.getElem?_set_self hi] at e'
    cases e'
  · exact hq.elim⟩

theorem two {K : PySem.W.Frag} {σ : L2.St} {H : Hp} {n : Nat} {ow : Ow} {env : Env} {R : T → T → Env → Prop} {E : XQ} {Qv : V → V → Hp → Prop} (hr : okR ra Mb = true) (s : StOk K H ow σ env) (hq : pa env (fun t _ env1 => pb env1 (fun u _ env2 => R t u env2) E) E)
    (k : ∀ x y t u H' ow' env', Stp (Ma ++ Mb) n H ow H' ow' → StOk K H' ow' σ env' → Out (Ma ++ Mb) env env' → Ro K H' ow' x t → Ro K H' ow' y u → R t u env' → Qv x y H') (x : Xk K W (Ma ++ Mb) σ H n ow env E) :
    tP K W Ma ra pa σ H fun x H1 => tP K W Mb rb pb σ H1 fun y H2 => Qv x y H2 := by
  refine ⟨n, ow, env, _, E, s, hq, fun v t pt H1 ow1 env1 y1 s1 o1 r1 q1 => ?_, fun r d H' ow' env' y s' o => x r d H' ow' env' (y.mono subl (Nat.le_refl _)) s' (o.mono subl)⟩
  refine ⟨n + 1, ow1, env1, _, E, s1, q1, fun w u pu H2 ow2 env2 y2 s2 o2 r2 q2 => ?_, x.step y1 o1 subl subr (Nat.le_refl _) (Nat.le_succ _)⟩
  exact k v w t u H2 ow2 env2 (y1.trans y2 subl subr (Nat.le_refl _) (Nat.le_succ _)) s2 (o1.trans o2 subl subr) ((r1.stp y2 o2 hr (Nat.lt_succ_self _)).ro s2) (r2.ro s2) q2
end
def Op2 (K : PySem.W.Frag) (r : R2) (g : T → T → (T → Prop) → Prop) : Prop := ∀ (H : Hp) (ow : Ow) (n : Nat) (x y : V) (t u : T) (Q : T → Prop) (Qv : VK), Ro K H ow x t → Ro K H ow y u → g t u Q →
  (∀ v w H' ow', Stp [] n H ow H' ow' → Tq K H' ow' (.tm n) v w → Q w → Qv v H') → r x y H Qv
def Op1 (K : PySem.W.Frag) (r : V → Hp → VK → Prop) (g : T → (T → Prop) → Prop) : Prop := ∀ (H : Hp) (ow : Ow) (n : Nat) (x : V) (t : T) (Q : T → Prop) (Qv : VK), Ro K H ow x t → g t Q →
  (∀ v w H' ow', Stp [] n H ow H' ow' → Tq K H' ow' (.tm n) v w → Q w → Qv v H') → r x H Qv
def s2 (pa pb : SemP) (g : T → T → (T → Prop) → Prop) : SemE := fun env Q E => pa env (fun t _ env1 => pb env1 (fun u _ env2 => g t u fun w => Q w env2) E) E
def s1 (pa : SemP) (g : T → (T → Prop) → Prop) : SemE := fun env Q E => pa env (fun t _ env1 => g t fun w => Q w env1) E
section
variable {X : Cx} {W : WX} {M Ma Mb : List Nat} {e a b : Expr} {pa pb : SemP} {ra rb root : Option Nat} {pos : Pos}
theorem op2_run {K : PySem.W.Frag} {r : R2} {g : T → T → (T → Prop) → Prop} (hg : Op2 K r g) (hr : okR ra Mb = true) {σ : L2.St} {H : Hp} {Qv : VK} (h : tQ K W (Ma ++ Mb) (s2 pa pb g) σ H Qv) : tOp r (tP K W Ma ra pa) (tP K W Mb rb pb) σ H Qv := by
  obtain ⟨n, ow, env, Q, E, s, hq, k, x⟩ := h
  refine two (R := fun t u env2 => g t u fun w => Q w env2) (E := E) (Qv := fun x y H2 => r x y H2 Qv) hr s hq (fun x' y t u H' ow' env' y1 s' o r1 r2 q => ?_) x
  refine hg H' ow' n x' y t u _ Qv r1 r2 q fun v w H2 ow2 y2 r3 q3 => ?_
  exact k v w H2 ow2 env' (y1.trans y2 (fun _ h => h) nilsub (Nat.le_refl _) (Nat.le_refl _)) (s'.stp0 y2) o r3 q3
theorem q_op {op : Operator} {r : R2} {g : T → T → (T → Prop) → Prop} (ho : OpR X (binaryOp op) r) (hg : Op2 X.K r g) (ha : QP X W Ma ra a pa) (hb : QP X W Mb rb b pb) (hr : okR ra Mb = true := by decide) : QE X W (Ma ++ Mb) (.BinOp a op b pos) (s2 pa pb g) :=
  ⟨PE_imp (pe_op ho ha.run hb.run) fun _ _ _ h => op2_run hg hr h⟩
theorem q_cmp {op : CmpOp} {r : R2} {g : T → T → (T → Prop) → Prop} (ho : OpR X (compareOp op) r) (hg : Op2 X.K r g) (ha : QP X W Ma ra a pa) (hb : QP X W Mb rb b pb) (hm : behindInMarks op b = false) (hr : okR ra Mb = true := by decide) : QE X W (Ma ++ Mb) (.Compare a [op] [b] pos) (s2 pa pb g) :=
  ⟨PE_imp (pe_cmpR ho ha.run hb.run hm) fun _ _ _ h => op2_run hg hr h⟩
theorem q_ixR {r : R2} {g : T → T → (T → Prop) → Prop} (ho : IxR X r) (hg : Op2 X.K r g) (ha : QP X W Ma ra a pa) (hb : QP X W Mb rb b pb) (hs : PlainIx b) (hr : okR ra Mb = true := by decide) : QE X W (Ma ++ Mb) (.Subscript a b pos) (s2 pa pb g) :=
  ⟨PE_imp (pe_ix ho ha.run hb.run hs) fun _ _ _ h => op2_run hg hr h⟩
theorem q_un {op : UnaryOp} {r : V → Hp → VK → Prop} {g : T → (T → Prop) → Prop} (ho : UnR X (unaryOp op) r) (hg : Op1 X.K r g) (ha : QP X W M root a pa) : QE X W M (.UnaryOp op a pos) (s1 pa g) :=
  ⟨PE_imp (pe_un ho ha.run) fun σ H Qv ⟨n, ow, env, Q, E, s, hq, k, x⟩ => ⟨n, ow, env, _, E, s, hq, fun v t pt H' ow' env' y1 s' o r q => hg H' ow' n v t _ Qv (r.ro s') q fun v' w H2 ow2 y2 r3 q3 =>
    k v' w H2 ow2 env' (y1.trans y2 (fun _ h => h) nilsub (Nat.le_refl _) (Nat.le_refl _)) (s'.stp0 y2) o r3 q3, x⟩⟩
end
end QV

set_option Elab.async false
set_option linter.all false
set_option maxRecDepth 100000
set_option maxHeartbeats 2000000
namespace QV
open PySem L2

mutual
def D.py : D → PyData
  | .non => .none
  | .bl b => .bool b
  | .int i => .int i
  | .str x => .str x
  | .nd .lst ds => .list (Dspy ds)
  | .nd .tup ds => .tuple (Dspy ds)
  | _ => .none
def Dspy : List D → List PyData
  | [] => []
  | d :: ds => D.py d :: Dspy ds
end
mutual
def D.pl : Nat → D → Bool
  | _, .non => true
  | _, .bl _ => true
  | _, .int _ => true
  | _, .str x => PyData.strOk x
  | 0, .nd _ _ => false
  | n + 1, .nd .lst ds => Dspl n ds
  | n + 1, .nd .tup ds => Dspl n ds
  | _, _ => false
def Dspl : Nat → List D → Bool
  | _, [] => true
  | n, d :: ds => D.pl n d && Dspl n ds
end
mutual
def eqD : D → D → Bool
  | .non, .non => true
  | .bl a, .bl b => decide (a = b)
  | .bl a, .int j => decide ((if a then 1 else 0) = j)
  | .int i, .bl b => decide (i = if b then 1 else 0)
  | .int i, .int j => decide (i = j)
  | .str x, .str y => decide (x = y)
  | .nd .lst xs, .nd .lst ys => eqDs xs ys
  | .nd .tup xs, .nd .tup ys => eqDs xs ys
  | _, _ => false
def eqDs : List D → List D → Bool
  | [], [] => true
  | x :: xs, y :: ys => eqD x y && eqDs xs ys
  | _, _ => false
end
mutual
theorem D.pl_lay : ∀ {n : Nat} (d : D), d.pl n = true → d.py.canLay0 = true ∧ d.py.depth ≤ n
  | n, .non, _ => ⟨rfl, by simp [D.py, PyData.depth]⟩
  | n, .bl b, _ => ⟨rfl, by simp [D.py, PyData.depth]⟩
  | n, .int i, _ => ⟨rfl, by simp [D.py, PyData.depth]⟩
  | n, .str x, h => ⟨by simpa [D.py, PyData.canLay0, D.pl] using h, by simp [D.py, PyData.depth]⟩
  | 0, .scr _, h => by simp [D.pl] at h
  | n + 1, .scr _, h => by simp [D.pl] at h
  | 0, .nd _ _, h => by simp [D.pl] at h
  | n + 1, .nd .lst ds, h => by
    have q := Dspl_lay (n := n) ds (by simpa [D.pl] using h)
    exact ⟨by simpa [D.py, PyData.canLay0] using q.1, by simpa [D.py, PyData.depth] using q.2⟩
  | n + 1, .nd .tup ds, h => by
    have q := Dspl_lay (n := n) ds (by simpa [D.pl] using h)
    exact ⟨by simpa [D.py, PyData.canLay0] using q.1, by simpa [D.py, PyData.depth] using q.2⟩
  | n + 1, .nd (.dK _) _, h => by simp [D.pl] at h
  | n + 1, .nd (.dT _) _, h => by simp [D.pl] at h
  | n + 1, .nd (.lkT _ _) _, h => by simp [D.pl] at h
  | n + 1, .nd (.lsA _) _, h => by simp [D.pl] at h
  | n + 1, .nd (.ins _ _) _, h => by simp [D.pl] at h
theorem Dspl_lay : ∀ {n : Nat} (ds : List D), Dspl n ds = true → PyData.canLayAll0 (Dspy ds) = true ∧ PyData.depthAll (Dspy ds) ≤ n
  | n, [], _ => ⟨by simp [Dspy, PyData.canLayAll0], by simp [Dspy, PyData.depthAll]⟩
  | n, d :: ds, h => by
    have h' : D.pl n d = true ∧ Dspl n ds = true := by simpa [Dspl] using h
    have q1 := D.pl_lay d h'.1
    have q2 := Dspl_lay ds h'.2
    refine ⟨by simp [Dspy, PyData.canLayAll0, q1.1, q2.1], ?_⟩
    have := q1.2
    have := q2.2
    simp only [Dspy, PyData.depthAll]
    omega
end
theorem D.pl_shaped {n : Nat} {d : D} (h : d.pl n = true) (hn : n ≤ 64) : SeqAt.shaped d.py = true := by
  have q := D.pl_lay d h
  unfold SeqAt.shaped
  rw [q.1, decide_eq_true (Nat.le_trans q.2 hn)]
  rfl
mutual
theorem eqD_py : ∀ {n m : Nat} (d e : D), d.pl n = true → e.pl m = true → eqD d e = PyData.eqv d.py e.py
  | n, m, .non, .non, _, _ => by simp [eqD, D.py, PyData.eqv]
  | n, m, .non, .bl _, _, _ => by simp [eqD, D.py, PyData.eqv]
  | n, m, .non, .int _, _, _ => by simp [eqD, D.py, PyData.eqv]
  | n, m, .non, .str _, _, _ => by simp [eqD, D.py, PyData.eqv]
  | n, m, .bl _, .non, _, _ => by simp [eqD, D.py, PyData.eqv]
  | n, m, .bl a, .bl b, _, _ => by simp only [eqD, D.py, PyData.eqv]; cases a <;> cases b <;> rfl
  | n, m, .bl a, .int j, _, _ => by simp only [eqD, D.py, PyData.eqv]; rw [Bool.beq_eq_decide_eq]
  | n, m, .bl _, .str _, _, _ => by simp [eqD, D.py, PyData.eqv]
  | n, m, .int _, .non, _, _ => by simp [eqD, D.py, PyData.eqv]
  | n, m, .int i, .bl b, _, _ => by simp only [eqD, D.py, PyData.eqv]; rw [Bool.beq_eq_decide_eq]
  | n, m, .int i, .int j, _, _ => by simp only [eqD, D.py, PyData.eqv]; rw [Bool.beq_eq_decide_eq]
  | n, m, .int _, .str _, _, _ => by simp [eqD, D.py, PyData.eqv]
  | n, m, .str _, .non, _, _ => by simp [eqD, D.py, PyData.eqv]
  | n, m, .str _, .bl _, _, _ => by simp [eqD, D.py, PyData.eqv]
  | n, m, .str _, .int _, _, _ => by simp [eqD, D.py, PyData.eqv]
  | n, m, .str x, .str y, _, _ => by simp only [eqD, D.py, PyData.eqv]; rw [Bool.beq_eq_decide_eq]
  | n + 1, m + 1, .nd .lst xs, .nd .lst ys, h, k => by simpa [eqD, D.py, PyData.eqv] using eqDs_py xs ys (by simpa [D.pl] using h) (by simpa [D.pl] using k)
  | n + 1, m + 1, .nd .tup xs, .nd .tup ys, h, k => by simpa [eqD, D.py, PyData.eqv] using eqDs_py xs ys (by simpa [D.pl] using h) (by simpa [D.pl] using k)
  | n + 1, m + 1, .nd .lst xs, .nd .tup ys, _, _ => by simp [eqD, D.py, PyData.eqv]
  | n + 1, m + 1, .nd .tup xs, .nd .lst ys, _, _ => by simp [eqD, D.py, PyData.eqv]
  | n, m, .scr _, _, h, _ => by cases n <;> simp [D.pl] at h
  | n, m, _, .scr _, _, h => by cases m <;> simp [D.pl] at h
  | 0, m, .nd _ _, _, h, _ => by simp [D.pl] at h
  | n, 0, _, .nd _ _, _, h => by simp [D.pl] at h
  | n + 1, m, .nd (.dK _) _, _, h, _ => by simp [D.pl] at h
  | n + 1, m, .nd (.dT _) _, _, h, _ => by simp [D.pl] at h
  | n + 1, m, .nd (.lkT _ _) _, _, h, _ => by simp [D.pl] at h
  | n + 1, m, .nd (.lsA _) _, _, h, _ => by simp [D.pl] at h
  | n + 1, m, .nd (.ins _ _) _, _, h, _ => by simp [D.pl] at h
  | n, m + 1, _, .nd (.dK _) _, _, h => by simp [D.pl] at h
  | n, m + 1, _, .nd (.dT _) _, _, h => by simp [D.pl] at h
  | n, m + 1, _, .nd (.lkT _ _) _, _, h => by simp [D.pl] at h
  | n, m + 1, _, .nd (.lsA _) _, _, h => by simp [D.pl] at h
  | n, m + 1, _, .nd (.ins _ _) _, _, h => by simp [D.pl] at h
  | n + 1, m, .nd .lst _, .non, _, _ => by simp [eqD, D.py, PyData.eqv]
  | n + 1, m, .nd .lst _, .bl _, _, _ => by simp [eqD, D.py, PyData.eqv]
  | n + 1, m, .nd .lst _, .int _, _, _ => by simp [eqD, D.py, PyData.eqv]
  | n + 1, m, .nd .lst _, .str _, _, _ => by simp [eqD, D.py, PyData.eqv]
  | n + 1, m, .nd .tup _, .non, _, _ => by simp [eqD, D.py, PyData.eqv]
  | n + 1, m, .nd .tup _, .bl _, _, _ => by simp [eqD, D.py, PyData.eqv]
  | n + 1, m, .nd .tup _, .int _, _, _ => by simp [eqD, D.py, PyData.eqv]
  | n + 1, m, .nd .tup _, .str _, _, _ => by simp [eqD, D.py, PyData.eqv]
  | n, m + 1, .non, .nd .lst _, _, _ => by simp [eqD, D.py, PyData.eqv]
  | n, m + 1, .bl _, .nd .lst _, _, _ => by simp [eqD, D.py, PyData.eqv]
  | n, m + 1, .int _, .nd .lst _, _, _ => by simp [eqD, D.py, PyData.eqv]
  | n, m + 1, .str _, .nd .lst _, _, _ => by simp [eqD, D.py, PyData.eqv]
  | n, m + 1, .non, .nd .tup _, _, _ => by simp [eqD, D.py, PyData.eqv]
  | n, m + 1, .bl _, .nd .tup _, _, _ => by simp [eqD, D.py, PyData.eqv]
  | n, m + 1, .int _, .nd .tup _, _, _ => by simp [eqD, D.py, PyData.eqv]
  | n, m + 1, .str _, .nd .tup _, _, _ => by simp [eqD, D.py, PyData.eqv]
theorem eqDs_py : ∀ {n m : Nat} (ds es : List D), Dspl n ds = true → Dspl m es = true → eqDs ds es = PyData.eqvAll (Dspy ds) (Dspy es)
  | n, m, [], [], _, _ => by simp [eqDs, Dspy, PyData.eqvAll]
  | n, m, [], _ :: _, _, _ => by simp [eqDs, Dspy, PyData.eqvAll]
  | n, m, _ :: _, [], _, _ => by simp [eqDs, Dspy, PyData.eqvAll]
  | n, m, d :: ds, e :: es, h, k => by
    have h' : D.pl n d = true ∧ Dspl n ds = true := by simpa [Dspl] using h
    have k' : D.pl m e = true ∧ Dspl m es = true := by simpa [Dspl] using k
    simp only [eqDs, Dspy, PyData.eqvAll, eqD_py d e h'.1 k'.1, eqDs_py ds es h'.2 k'.2]
end
section
variable {K : PySem.W.Frag} {H : Hp} {ow : Ow} {B : Hp}
mutual
theorem Rp.dp : ∀ {n : Nat} {v : V} (d : D), Rp K B v d → d.pl n = true → Dp K B v d.py
  | n, _, .non, h, _ => by cases h; exact .non
  | n, _, .bl b, h, _ => by cases h; exact .bl b
  | n, _, .int b, h, _ => by cases h; exact .int b
  | n, _, .str b, h, _ => by cases h; exact .str b
  | 0, _, .scr _, _, h => by simp [D.pl] at h
  | n + 1, _, .scr _, _, h => by simp [D.pl] at h
  | 0, _, .nd _ _, _, h => by simp [D.pl] at h
  | n + 1, _, .nd .lst ds, h, k => by
    cases h with
    | cell _ c r => exact .lst (.inl (.inl c.at_)) (Rps.dp (n := n) ds r (by simpa [D.pl] using k))
  | n + 1, _, .nd .tup ds, h, k => by
    cases h with
    | tup c _ r => exact .tup (sqT_of c) (Rps.dp (n := n) ds r (by simpa [D.pl] using k))
    | cell hn _ _ => exact absurd rfl hn
  | n + 1, _, .nd (.dK _) _, _, h => by simp [D.pl] at h
  | n + 1, _, .nd (.dT _) _, _, h => by simp [D.pl] at h
  | n + 1, _, .nd (.lkT _ _) _, _, h => by simp [D.pl] at h
  | n + 1, _, .nd (.lsA _) _, _, h => by simp [D.pl] at h
  | n + 1, _, .nd (.ins _ _) _, _, h => by simp [D.pl] at h
theorem Rps.dp : ∀ {n : Nat} {vs : List V} (ds : List D), Rps K B vs ds → Dspl n ds = true → DpAll K B vs (Dspy ds)
  | n, _, [], h, _ => by cases h; exact .nil
  | n, _, d :: ds, h, k => by
    cases h with
    | cons r s =>
      have k' : D.pl n d = true ∧ Dspl n ds = true := by simpa [Dspl] using k
      exact .cons (Rp.dp d r k'.1) (Rps.dp ds s k'.2)
end
def shL : T → Option (List D)
  | .fz (.nd .lst ds) => some ds
  | .ow .lst ds => some ds
  | _ => none
def shT : T → Option (List D)
  | .fz (.nd .tup ds) => some ds
  | .ow .tup ds => some ds
  | _ => none
theorem Ro.int {x : V} {i : Int} (h : Ro K H ow x (.fz (.int i))) : x = .int i := by
  have := h.rd; cases this; rfl
theorem Ro.str {x : V} {i : Str} (h : Ro K H ow x (.fz (.str i))) : x = .str i := by
  have := h.rd; cases this; rfl
theorem Ro.bl {x : V} {i : Bool} (h : Ro K H ow x (.fz (.bl i))) : x = .bl i := by
  have := h.rd; cases this; rfl
theorem Ro.non {x : V} (h : Ro K H ow x (.fz .non)) : x = .non := by
  have := h.rd; cases this; rfl
theorem Ro.lst {x : V} {t : T} {ds : List D} (h : Ro K H ow x t) (e : shL t = some ds) : ∃ a vs, x = .ref a ∧ H a = some (.lst vs) ∧ vs.length ≤ sizeLine ∧ Rps K (Bs H ow) vs ds := by
  unfold shL at e
  split at e
  · cases e
    obtain ⟨l, h⟩ := h
    cases Tq.fz_.mp h with
    | cell _ c r => exact ⟨_, _, rfl, bs_same H ow _ _ c.at_, c.sz, r⟩
  · cases e
    obtain ⟨l, S, h⟩ := h
    cases h with
    | ow c _ r => exact ⟨_, _, rfl, c.at_, c.sz, r⟩
  · cases e
theorem Ro.tup {x : V} {t : T} {ds : List D} (h : Ro K H ow x t) (e : shT t = some ds) : ∃ a vs, x = .ref a ∧ SqT K H a vs ∧ vs.length ≤ sizeLine ∧ Rps K (Bs H ow) vs ds := by
  unfold shT at e
  split at e
  · cases e
    obtain ⟨l, h⟩ := h
    cases Tq.fz_.mp h with
    | tup c z r => exact ⟨_, _, rfl, sqT_of (bs_same H ow _ _ c), z, r⟩
    | cell hn _ _ => exact absurd rfl hn
  · cases e
    obtain ⟨l, S, h⟩ := h
    cases h with
    | ow c _ r => exact ⟨_, _, rfl, .inl (.inl c.at_), c.sz, r⟩
  · cases e
end

def intG (C : Int → Int → Prop) (g : Int → Int → D) (t u : T) (Q : T → Prop) : Prop := match t, u with
  | .fz (.int i), .fz (.int j) => C i j ∧ Q (.fz (g i j))
  | _, _ => False
def int0G (g : Int → Int → D) (t u : T) (Q : T → Prop) : Prop := match t, u with
  | .fz (.int i), .fz (.int j) => Q (.fz (g i j))
  | _, _ => False
section
variable {K : PySem.W.Frag}
theorem g_int {C : Int → Int → Prop} {f : Int → Int → V} {g : Int → Int → D} (hf : ∀ B i j, Rp K B (f i j) (g i j)) : Op2 K (rI C f) (intG C g) := by
  intro H ow n x y t u Q Qv rx ry h k
  unfold intG at h
  split at h
  · exact ⟨_, _, rx.int, ry.int, h.1, k _ _ H ow Stp.refl (Tq.fz_.mpr (hf _ _ _)) h.2⟩
  · exact h.elim
theorem g_int0 {f : Int → Int → V} {g : Int → Int → D} (hf : ∀ B i j, Rp K B (f i j) (g i j)) : Op2 K (rI0 f) (int0G g) := by
  intro H ow n x y t u Q Qv rx ry h k
  unfold int0G at h
  split at h
  · exact ⟨_, _, rx.int, ry.int, k _ _ H ow Stp.refl (Tq.fz_.mpr (hf _ _ _)) h⟩
  · exact h.elim
def addG (t u : T) (Q : T → Prop) : Prop := match t, u with
  | .fz (.int i), .fz (.int j) => Q (.fz (.int (i + j)))
  | .fz (.str a), .fz (.str b) => a.length + b.length ≤ sizeLine ∧ Q (.fz (.str (a ++ b)))
  | .fz (.nd .tup ds), .fz (.nd .tup es) => ds.length + es.length ≤ sizeLine ∧ Q (.fz (.nd .tup (ds ++ es)))
  | .fz (.nd .lst ds), .fz (.nd .lst es) => ds.length + es.length ≤ sizeLine ∧ Q (.ow .lst (ds ++ es))
  | .fz (.nd .lst ds), .ow .lst es => ds.length + es.length ≤ sizeLine ∧ Q (.ow .lst (ds ++ es))
  | .ow .lst ds, .fz (.nd .lst es) => ds.length + es.length ≤ sizeLine ∧ Q (.ow .lst (ds ++ es))
  | .ow .lst ds, .ow .lst es => ds.length + es.length ≤ sizeLine ∧ Q (.ow .lst (ds ++ es))
  | _, _ => False
def rAddAll (K : PySem.W.Frag) : R2 := fun x y H Q => rI0 (fun i j => .int (i + j)) x y H Q ∨ (∃ i j, x = .str i ∧ y = .str j ∧ i.length + j.length ≤ sizeLine ∧ Q (.str (i ++ j)) H) ∨ rCatA K x y H Q ∨ rCat x y H Q
theorem op_addAll {X : Cx} : OpR X (binaryOp .Add) (rAddAll X.K) := op_add.or (op_add_str.or (op_catA.or op_cat))
theorem cat_of {H : Hp} {ow : Ow} {n : Nat} {x y : V} {t u : T} {ds es : List D} {Q : T → Prop} {Qv : VK} (rx : Ro K H ow x t) (ry : Ro K H ow y u) (ht : shL t = some ds) (hu : shL u = some es) (hz : ds.length + es.length ≤ sizeLine) (q : Q (.ow .lst (ds ++ es)))
    (k : ∀ v w H' ow', Stp [] n H ow H' ow' → Tq K H' ow' (.tm n) v w → Q w → Qv v H') : rCat x y H Qv := by
  obtain ⟨a, vs, e1, h1, z1, r1⟩ := rx.lst ht
  obtain ⟨b, ws, e2, h2, z2, r2⟩ := ry.lst hu
  have l1 := r1.len
  have l2 := r2.len
  refine ⟨a, b, vs, ws, e1, e2, h1, h2, by omega, fun p hp => k _ _ _ (Ow.put ow p (.tm n)) (Stp.new hp) (Tq.newL hp (by rw [List.length_append]; omega) (r1.app r2)) q⟩
theorem g_add : Op2 K (rAddAll K) addG := by
  intro H ow n x y t u Q Qv rx ry h k
  unfold addG at h
  split at h
  · exact .inl ⟨_, _, rx.int, ry.int, k _ _ H ow Stp.refl (Tq.fz_.mpr (.int _)) h⟩
  · exact .inr (.inl ⟨_, _, rx.str, ry.str, h.1, k _ _ H ow Stp.refl (Tq.fz_.mpr (.str _)) h.2⟩)
  · rename_i ds es
    obtain ⟨a, vs, e1, h1, z1, r1⟩ := rx.tup rfl
    obtain ⟨b, ws, e2, h2, z2, r2⟩ := ry.tup rfl
    have l1 := r1.len
    have l2 := r2.len
    refine .inr (.inr (.inl ⟨a, b, vs, ws, e1, e2, h1, h2, by omega, fun z => ?_, fun _ z => ?_, fun _ _ p hp => ?_⟩))
    · subst z
      cases ds with
      | cons _ _ => simp at l1
      | nil =>
        have h3 := h.2
        rw [List.nil_append] at h3
        subst e2
        exact k _ _ H ow Stp.refl (by obtain ⟨l, ry⟩ := ry; exact Tq.fz_.mpr (Tq.fz_.mp ry)) h3
    · subst z
      cases es with
      | cons _ _ => simp at l2
      | nil =>
        have h3 := h.2
        rw [List.append_nil] at h3
        subst e1
        exact k _ _ H ow Stp.refl (by obtain ⟨l, rx⟩ := rx; exact Tq.fz_.mpr (Tq.fz_.mp rx)) h3
    · have y1 : Stp [] n H ow (upd H p (.tup (vs ++ ws))) (Ow.put ow p (.tm n)) := Stp.new hp
      have q1 := Tq.newT (K := K) (l := .tm n) (vs := vs ++ ws) hp (by rw [List.length_append]; omega) (r1.app r2)
      have y2 : Stp [] n (upd H p (.tup (vs ++ ws))) (Ow.put ow p (.tm n)) (upd H p (.tup (vs ++ ws))) (Ow.mv (Ow.put ow p (.tm n)) (.tm n) .base) := Stp.mv not_tm
      exact k _ _ _ _ (y1.trans y2 (fun _ h => h) (fun _ h => h) (Nat.le_refl _) (Nat.le_refl _)) (Tq.fz_.mpr (q1.frz fun z => nomatch z)) h.2
  · exact .inr (.inr (.inr (cat_of rx ry rfl rfl h.1 h.2 k)))
  · exact .inr (.inr (.inr (cat_of rx ry rfl rfl h.1 h.2 k)))
  · exact .inr (.inr (.inr (cat_of rx ry rfl rfl h.1 h.2 k)))
  · exact .inr (.inr (.inr (cat_of rx ry rfl rfl h.1 h.2 k)))
  · exact h.elim
end
end QV

set_option Elab.async false
set_option linter.all false
set_option maxRecDepth 100000
set_option maxHeartbeats 2000000
namespace QV
open PySem L2

def scD : D → D → Bool
  | .non, .non => true | .non, .int _ => true | .int _, .non => true | .non, .bl _ => true | .bl _, .non => true | .non, .str _ => true | .str _, .non => true
  | .int _, .int _ => true | .bl _, .bl _ => true | .str _, .str _ => true
  | .int _, .str _ => true | .str _, .int _ => true | .bl _, .str _ => true | .str _, .bl _ => true
  | _, _ => false
def flD : D → Bool
  | .non => true
  | .bl _ => true
  | .int _ => true
  | .str _ => true
  | _ => false
section
variable {K : PySem.W.Frag} {B : Hp} {x y : V} {d e : D}
theorem sc_eq (rx : Rp K B x d) (ry : Rp K B y e) (h : scD d e = true) : scal x y = true ∧ decide (x = y) = eqD d e := by
  cases rx <;> cases ry <;> simp [scD] at h <;> simp [scal, eqD]
theorem fl_V (rx : Rp K B x d) (h : flD d = true) : flatV x = true := by
  cases rx <;> simp [flD] at h <;> rfl
theorem fl_eq (rx : Rp K B x d) (ry : Rp K B y e) (h : flD d = true) (h' : flD e = true) : eqV x y = eqD d e := by
  cases rx <;> cases ry <;> simp [flD] at h h' <;> simp [eqV, eqD, Bool.beq_eq_decide_eq]
theorem fl_all : ∀ {vs : List V} {ds : List D}, Rps K B vs ds → ds.all flD = true → vs.all flatV = true
  | _, _, .nil, _ => rfl
  | _, _, .cons r s, h => by
    rw [List.all_cons, Bool.and_eq_true] at h
    rw [List.all_cons, fl_V r h.1, fl_all s h.2]
    rfl
theorem fl_any (rx : Rp K B x d) (h : flD d = true) : ∀ {vs : List V} {ds : List D}, Rps K B vs ds → ds.all flD = true → inV x vs = ds.any fun z => eqD z d
  | _, _, .nil, _ => rfl
  | _, _, .cons r s, k => by
    rw [List.all_cons, Bool.and_eq_true] at k
    show ((eqV _ x) || inV x _) = _
    rw [List.any_cons, fl_eq r rx k.1 h, fl_any rx h s k.2]
theorem pl_any {n m : Nat} (h : d.pl n = true) : ∀ ds : List D, Dspl m ds = true → ((Dspy ds).any fun z => PyData.eqv z d.py) = ds.any fun z => eqD z d
  | [], _ => rfl
  | e :: ds, k => by
    have k' : D.pl m e = true ∧ Dspl m ds = true := by simpa [Dspl] using k
    show (PyData.eqv e.py d.py || (Dspy ds).any fun z => PyData.eqv z d.py) = (eqD e d || ds.any fun z => eqD z d)
    rw [eqD_py e d k'.1 h, pl_any h ds k'.2]
end
def eqG (neg : Bool) (t u : T) (Q : T → Prop) : Prop := (scD t.d u.d = true ∨ (t.d.pl 64 = true ∧ u.d.pl 64 = true)) ∧ Q (.fz (.bl (if neg then !eqD t.d u.d else eqD t.d u.d)))
def inG (neg : Bool) (t u : T) (Q : T → Prop) : Prop := match u with
  | .fz (.nd .lst es) => ((flD t.d && es.all flD) = true ∨ (t.d.pl 63 = true ∧ Dspl 63 es = true)) ∧ Q (.fz (.bl (if neg then !es.any (fun z => eqD z t.d) else es.any fun z => eqD z t.d)))
  | .ow .lst es => ((flD t.d && es.all flD) = true ∨ (t.d.pl 63 = true ∧ Dspl 63 es = true)) ∧ Q (.fz (.bl (if neg then !es.any (fun z => eqD z t.d) else es.any fun z => eqD z t.d)))
  | .fz (.nd .tup es) => (flD t.d && es.all flD) = true ∧ Q (.fz (.bl (if neg then !es.any (fun z => eqD z t.d) else es.any fun z => eqD z t.d)))
  | .ow .tup es => (flD t.d && es.all flD) = true ∧ Q (.fz (.bl (if neg then !es.any (fun z => eqD z t.d) else es.any fun z => eqD z t.d)))
  | .fz (.str z) => ∃ c, t = .fz (.str ⟨#[c]⟩) ∧ Q (.fz (.bl (if neg then !decide (c ∈ z.cps.toList) else decide (c ∈ z.cps.toList))))
  | _ => False
def nonD : D → Bool
  | .non => true
  | _ => false
def isNG (neg : Bool) (t u : T) (Q : T → Prop) : Prop := match u with
  | .fz .non => Q (.fz (.bl (if neg then !nonD t.d else nonD t.d)))
  | _ => False
section
variable {K : PySem.W.Frag} {X : Cx}
def rEqAll (K : PySem.W.Frag) : R2 := fun x y H Q => rEq x y H Q ∨ rEqD K x y H Q
def rNeAll (K : PySem.W.Frag) : R2 := fun x y H Q => rNe x y H Q ∨ rNeD K x y H Q
theorem op_eqAll (hu : X.A.units + 64 < cLine) : OpR X (compareOp .Eq) (rEqAll X.K) := op_eq.or (op_eqD hu)
theorem op_neAll (hu : X.A.units + 64 < cLine) : OpR X (compareOp .NotEq) (rNeAll X.K) := op_ne.or (op_neD hu)
theorem g_eq : Op2 K (rEqAll K) (eqG false) := by
  intro H ow n x y t u Q Qv rx ry h k
  obtain ⟨h | h, q⟩ := h
  · obtain ⟨e1, e2⟩ := sc_eq rx.rd ry.rd h
    exact .inl ⟨e1, k _ _ H ow Stp.refl (Tq.fz_.mpr (by rw [e2]; exact .bl _)) q⟩
  · exact .inr ⟨_, _, rx.rd.dp _ h.1, ry.rd.dp _ h.2, D.pl_shaped h.1 (Nat.le_refl _), D.pl_shaped h.2 (Nat.le_refl _), k _ _ H ow Stp.refl (Tq.fz_.mpr (by rw [← eqD_py _ _ h.1 h.2]; exact .bl _)) q⟩
theorem g_ne : Op2 K (rNeAll K) (eqG true) := by
  intro H ow n x y t u Q Qv rx ry h k
  obtain ⟨h | h, q⟩ := h
  · obtain ⟨e1, e2⟩ := sc_eq rx.rd ry.rd h
    exact .inl ⟨e1, k _ _ H ow Stp.refl (Tq.fz_.mpr (by rw [e2]; exact .bl _)) q⟩
  · exact .inr ⟨_, _, rx.rd.dp _ h.1, ry.rd.dp _ h.2, D.pl_shaped h.1 (Nat.le_refl _), D.pl_shaped h.2 (Nat.le_refl _), k _ _ H ow Stp.refl (Tq.fz_.mpr (by rw [← eqD_py _ _ h.1 h.2]; exact .bl _)) q⟩
def rInAll (K : PySem.W.Frag) (neg : Bool) : R2 := fun x y H Q => rIn K neg x y H Q ∨ (∃ d ds, Dp K H x d ∧ Dp K H y (.list ds) ∧ SeqAt.shaped d = true ∧ SeqAt.shaped (.list ds) = true ∧ Q (.bl (if neg then !ds.any (fun z => PyData.eqv z d) else ds.any fun z => PyData.eqv z d)) H) ∨
  (∃ (c : Nat) (z : Str), x = .str ⟨#[c]⟩ ∧ y = .str z ∧ Q (.bl (if neg then !decide (c ∈ z.cps.toList) else decide (c ∈ z.cps.toList))) H)
theorem g_in (neg : Bool) : Op2 K (rInAll K neg) (inG neg) := by
  intro H ow n x y t u Q Qv rx ry h k
  have lst : ∀ {es : List D}, shL u = some es → u.d = .nd .lst es → ((flD t.d && es.all flD) = true ∨ (t.d.pl 63 = true ∧ Dspl 63 es = true)) ∧ Q (.fz (.bl (if neg then !es.any (fun z => eqD z t.d) else es.any fun z => eqD z t.d))) → rInAll K neg x y H Qv := fun {es} e1 e2 hq => by
    obtain ⟨a, vs, rfl, h1, z1, r1⟩ := ry.lst e1
    obtain ⟨hc | hc, q⟩ := hq
    · rw [Bool.and_eq_true] at hc
      refine .inl ⟨a, vs, rfl, .inl (.inl (.inl h1)), fl_V rx.rd hc.1, fl_all r1 hc.2, k _ _ H ow Stp.refl (Tq.fz_.mpr ?_) q⟩
      rw [fl_any rx.rd hc.1 (r1.mono (bs_same H ow)) hc.2]
      exact .bl _
    · have p1 : (D.nd .lst es).pl 64 = true := by simpa [D.pl] using hc.2
      have hy := ry.rd
      rw [e2] at hy
      have d1 := hy.dp _ p1
      have s1 := D.pl_shaped p1 (Nat.le_refl _)
      refine .inr (.inl ⟨t.d.py, Dspy es, rx.rd.dp _ hc.1, by simpa [D.py] using d1, D.pl_shaped hc.1 (by decide), by simpa [D.py] using s1, k _ _ H ow Stp.refl (Tq.fz_.mpr ?_) q⟩)
      rw [pl_any hc.1 es hc.2]
      exact .bl _
  have tup : ∀ {es : List D}, shT u = some es → (flD t.d && es.all flD) = true ∧ Q (.fz (.bl (if neg then !es.any (fun z => eqD z t.d) else es.any fun z => eqD z t.d))) → rInAll K neg x y H Qv := fun {es} e1 hq => by
    obtain ⟨a, vs, rfl, h1, z1, r1⟩ := ry.tup e1
    obtain ⟨hc, q⟩ := hq
    rw [Bool.and_eq_true] at hc
    refine .inl ⟨a, vs, rfl, .inr h1, fl_V rx.rd hc.1, fl_all r1 hc.2, k _ _ H ow Stp.refl (Tq.fz_.mpr ?_) q⟩
    rw [fl_any rx.rd hc.1 (r1.mono (bs_same H ow)) hc.2]
    exact .bl _
  unfold inG at h
  split at h
  · exact lst rfl rfl h
  · exact lst rfl rfl h
  · exact tup rfl h
  · exact tup rfl h
  · obtain ⟨c, rfl, h⟩ := h
    exact .inr (.inr ⟨_, _, rx.str, ry.str, k _ _ H ow Stp.refl (Tq.fz_.mpr (.bl _)) h⟩)
  · exact h.elim
theorem op_inAll (hu : X.A.units + 65 < cLine) : OpR X (compareOp .In) (rInAll X.K false) :=
  op_in_seq.or (OpR.or (op_inD hu) fun pins s σ H x y v u Q I rx ry ⟨c, z, e1, e2, q⟩ => op_in_sign pins s σ H x y v u Q I rx ry ⟨c, z, e1, e2, q⟩)
theorem op_niAll (hu : X.A.units + 65 < cLine) : OpR X (compareOp .NotIn) (rInAll X.K true) :=
  op_notIn_seq.or (OpR.or (op_notInD hu) fun pins s σ H x y v u Q I rx ry ⟨c, z, e1, e2, q⟩ => op_notIn_sign pins s σ H x y v u Q I rx ry ⟨c, z, e1, e2, q⟩)
theorem non_iff {B : Hp} {x : V} {d : D} (r : Rp K B x d) : decide (x = .non) = nonD d := by
  cases r <;> simp [nonD]
theorem g_isN : Op2 K (fun x y H Q => y = .non ∧ Q (.bl (decide (x = .non))) H) (isNG false) := by
  intro H ow n x y t u Q Qv rx ry h k
  unfold isNG at h
  split at h
  · refine ⟨ry.non, k _ _ H ow Stp.refl (Tq.fz_.mpr (.bl _)) ?_⟩
    rw [non_iff rx.rd]
    exact h
  · exact h.elim
theorem g_notN : Op2 K (fun x y H Q => y = .non ∧ Q (.bl (!decide (x = .non))) H) (isNG true) := by
  intro H ow n x y t u Q Qv rx ry h k
  unfold isNG at h
  split at h
  · refine ⟨ry.non, k _ _ H ow Stp.refl (Tq.fz_.mpr (.bl _)) ?_⟩
    rw [non_iff rx.rd]
    exact h
  · exact h.elim
def ixG (t u : T) (Q : T → Prop) : Prop := match u with
  | .fz (.int i) => match t with
    | .fz (.nd .lst ds) => ∃ d, atI ds i = some d ∧ Q (.fz d)
    | .ow .lst ds => ∃ d, atI ds i = some d ∧ Q (.fz d)
    | .fz (.nd .tup ds) => ∃ d, atI ds i = some d ∧ Q (.fz d)
    | .ow .tup ds => ∃ d, atI ds i = some d ∧ Q (.fz d)
    | .fz (.str z) => z.length ≤ sizeLine ∧ ∃ c, atI z.cps.toList i = some c ∧ Q (.fz (.str ⟨#[c]⟩))
    | _ => False
  | _ => False
theorem Rps.atI {B : Hp} {vs : List V} {ds : List D} {i : Int} {d : D} (r : Rps K B vs ds) (h : L2.atI ds i = some d) : ∃ v, L2.atI vs i = some v ∧ Rp K B v d := by
  unfold L2.atI at h ⊢
  rw [r.len]
  cases e : ixN ds.length i with
  | none => rw [e] at h; cases h
  | some j =>
    rw [e] at h
    obtain ⟨v, h1, h2⟩ := r.get (i := j) (d := d) h
    exact ⟨v, h1, h2⟩
theorem g_ix : Op2 K (rIx K) ixG := by
  intro H ow n x y t u Q Qv rx ry h k
  have lst : ∀ {i : Int} {ds : List D}, y = .int i → shL t = some ds → (∃ d, atI ds i = some d ∧ Q (.fz d)) → rIx K x y H Qv := fun {i ds} ei e hd => by
    obtain ⟨d, hd, q⟩ := hd
    obtain ⟨a, vs, rfl, h1, z1, r1⟩ := rx.lst e
    obtain ⟨v, e1, r2⟩ := r1.atI hd
    exact .inl ⟨a, vs, i, v, rfl, ei, .inl (.inl h1), e1, k _ _ H ow Stp.refl (Tq.fz_.mpr r2) q⟩
  have tup : ∀ {i : Int} {ds : List D}, y = .int i → shT t = some ds → (∃ d, atI ds i = some d ∧ Q (.fz d)) → rIx K x y H Qv := fun {i ds} ei e hd => by
    obtain ⟨d, hd, q⟩ := hd
    obtain ⟨a, vs, rfl, h1, z1, r1⟩ := rx.tup e
    obtain ⟨v, e1, r2⟩ := r1.atI hd
    exact .inr (.inl ⟨a, vs, i, v, rfl, ei, h1, e1, k _ _ H ow Stp.refl (Tq.fz_.mpr r2) q⟩)
  unfold ixG at h
  split at h
  · have ei := ry.int
    split at h
    · exact lst ei rfl h
    · exact lst ei rfl h
    · exact tup ei rfl h
    · exact tup ei rfl h
    · obtain ⟨hz, c, hc, q⟩ := h
      exact .inr (.inr ⟨_, _, c, rx.str, ei, hz, hc, k _ _ H ow Stp.refl (Tq.fz_.mpr (.str _)) q⟩)
    · exact h.elim
  · exact h.elim
end

section
variable {X : Cx} {W : WX} {M Ma Mb Mc : List Nat} {e a b c : Expr} {pa pb pc : SemP} {qa qb qc : SemE} {ra rb rc root : Option Nat} {pos : Pos}
theorem q_add (ha : QP X W Ma ra a pa) (hb : QP X W Mb rb b pb) (hr : okR ra Mb = true := by decide) : QE X W (Ma ++ Mb) (.BinOp a .Add b pos) (s2 pa pb addG) := q_op op_addAll g_add ha hb hr
theorem q_sub (ha : QP X W Ma ra a pa) (hb : QP X W Mb rb b pb) (hr : okR ra Mb = true := by decide) : QE X W (Ma ++ Mb) (.BinOp a .Sub b pos) (s2 pa pb (int0G fun i j => .int (i - j))) := q_op op_sub (g_int0 fun _ _ _ => .int _) ha hb hr
theorem q_mul (ha : QP X W Ma ra a pa) (hb : QP X W Mb rb b pb) (hr : okR ra Mb = true := by decide) : QE X W (Ma ++ Mb) (.BinOp a .Mult b pos) (s2 pa pb (intG CMul fun i j => .int (i * j))) := q_op op_mul (g_int fun _ _ _ => .int _) ha hb hr
theorem q_fdiv (ha : QP X W Ma ra a pa) (hb : QP X W Mb rb b pb) (hr : okR ra Mb = true := by decide) : QE X W (Ma ++ Mb) (.BinOp a .FloorDiv b pos) (s2 pa pb (intG CDivW fun i j => .int (i / j))) := q_op op_fdivW (g_int fun _ _ _ => .int _) ha hb hr
theorem q_mod (ha : QP X W Ma ra a pa) (hb : QP X W Mb rb b pb) (hr : okR ra Mb = true := by decide) : QE X W (Ma ++ Mb) (.BinOp a .Mod b pos) (s2 pa pb (intG (fun _ j => 0 < j) fun i j => .int (i % j))) := q_op op_mod (g_int fun _ _ _ => .int _) ha hb hr
theorem q_neg (ha : QP X W M root a pa) : QE X W M (.UnaryOp .USub a pos) (s1 pa fun t Q => match t with | .fz (.int i) => Q (.fz (.int (-i))) | _ => False) := q_un un_neg (fun H ow n x t Q Qv rx h k => by
  split at h
  · exact ⟨_, rx.int, k _ _ H ow Stp.refl (Tq.fz_.mpr (.int _)) h⟩
  · exact h.elim) ha
theorem q_ix (ha : QP X W Ma ra a pa) (hb : QP X W Mb rb b pb) (hs : PlainIx b := by exact fun _ _ => rfl) (hr : okR ra Mb = true := by decide) : QE X W (Ma ++ Mb) (.Subscript a b pos) (s2 pa pb ixG) := q_ixR ix_seq g_ix ha hb hs hr
theorem q_eq (hu : X.A.units + 65 < cLine) (ha : QP X W Ma ra a pa) (hb : QP X W Mb rb b pb) (hr : okR ra Mb = true := by decide) : QE X W (Ma ++ Mb) (.Compare a [.Eq] [b] pos) (s2 pa pb (eqG false)) := q_cmp (op_eqAll (by omega)) g_eq ha hb (nomark _) hr
end
end QV

set_option Elab.async false
set_option linter.all false
set_option maxRecDepth 100000
set_option maxHeartbeats 2000000
namespace QV
open PySem L2

def sT (q : SemE) : SemT := fun env Q E => q env (fun w env' => match w with
  | .fz (.bl b) => Q b env'
  | _ => False) E
def sAnd (qa qb : SemT) : SemT := fun env Q E => qa env (fun c env1 => (c = true → qb env1 Q E) ∧ (c = false → Q false env1)) E
def sOrM (qa qb : SemT) : SemT := fun env Q E => qa env (fun c env1 => ∃ b : Bool, (c = false → qb env1 (fun b' env2 => b' = b ∧ env2 = env1) fun _ _ => False) ∧ Q (c || b) env1) E
def sNot (qa : SemT) : SemT := fun env Q E => qa env (fun c env1 => Q (!c) env1) E
structure QW (X : Cx) (W : WX) (M : List Nat) (e : Expr) (q : SemT) : Prop where
  run : PW X e (tT X.K W M q)
section
variable {X : Cx} {W : WX} {M Ma Mb Mc : List Nat} {e a b c : Expr} {rest : List Expr} {pa pb pc : SemP} {q qa qb qc : SemE} {ta tb tc : SemT} {ra rb rc root : Option Nat} {pos : Pos}
theorem tT_of {K : PySem.W.Frag} {t : TE} {σ : L2.St} {H : Hp} {Q : Bool → Hp → Prop} (h : tT K W M (sT q) σ H Q) (f : ∀ Qv, tQ K W M q σ H Qv → t σ H Qv) : t σ H fun x H' => ∃ k, x = .bl k ∧ Q k H' := by
  obtain ⟨n, ow, env, Qe, E, s, hq, k, x⟩ := h
  refine f _ ⟨n, ow, env, _, E, s, hq, fun v t' H' ow' env' y1 s' o r z => ?_, x⟩
  split at z
  · exact ⟨_, by have := (Tq.rd r); cases this; rfl, k _ H' ow' env' y1 s' o z⟩
  · exact z.elim
theorem t_val (h : QE X W M e q) (he : ∀ whole, isTrue e X.env whole = (do let v ← whole; standAt e.pos; holding [v] (truthy v)) := by intro _; rfl) : QT X W M e (sT q) :=
  ⟨PT_imp (pt_val h.run he) fun _ _ _ hq => tT_of (t := tQ X.K W M q) hq fun _ z => z⟩
theorem t_cmpR {op : CmpOp} {r : R2} {g : T → T → (T → Prop) → Prop} (ho : OpR X (compareOp op) r) (hg : Op2 X.K r g) (ha : QP X W Ma ra a pa) (hb : QP X W Mb rb b pb) (hm : behindInMarks op b = false) (hr : okR ra Mb = true := by decide) : QT X W (Ma ++ Mb) (.Compare a [op] [b] pos) (sT (s2 pa pb g)) :=
  ⟨PT_imp (pt_cmpR ho ha.run hb.run hm) fun _ _ _ hq => tT_of (t := tOp r _ _) hq fun _ z => op2_run hg hr z⟩
theorem t_lt (ha : QP X W Ma ra a pa) (hb : QP X W Mb rb b pb) (hr : okR ra Mb = true := by decide) : QT X W (Ma ++ Mb) (.Compare a [.Lt] [b] pos) (sT (s2 pa pb (int0G fun i j => .bl (decide (i < j))))) := t_cmpR op_lt (g_int0 fun _ _ _ => .bl _) ha hb (nomark _) hr
theorem t_gt (ha : QP X W Ma ra a pa) (hb : QP X W Mb rb b pb) (hr : okR ra Mb = true := by decide) : QT X W (Ma ++ Mb) (.Compare a [.Gt] [b] pos) (sT (s2 pa pb (int0G fun i j => .bl (decide (j < i))))) := t_cmpR op_gt (g_int0 fun _ _ _ => .bl _) ha hb (nomark _) hr
theorem t_ge (ha : QP X W Ma ra a pa) (hb : QP X W Mb rb b pb) (hr : okR ra Mb = true := by decide) : QT X W (Ma ++ Mb) (.Compare a [.GtE] [b] pos) (sT (s2 pa pb (int0G fun i j => .bl (decide (j ≤ i))))) := t_cmpR op_ge (g_int0 fun _ _ _ => .bl _) ha hb (nomark _) hr
theorem t_eq (hu : X.A.units + 65 < cLine) (ha : QP X W Ma ra a pa) (hb : QP X W Mb rb b pb) (hr : okR ra Mb = true := by decide) : QT X W (Ma ++ Mb) (.Compare a [.Eq] [b] pos) (sT (s2 pa pb (eqG false))) := t_cmpR (op_eqAll (by omega)) g_eq ha hb (nomark _) hr
theorem t_ne (hu : X.A.units + 65 < cLine) (ha : QP X W Ma ra a pa) (hb : QP X W Mb rb b pb) (hr : okR ra Mb = true := by decide) : QT X W (Ma ++ Mb) (.Compare a [.NotEq] [b] pos) (sT (s2 pa pb (eqG true))) := t_cmpR (op_neAll (by omega)) g_ne ha hb (nomark _) hr
theorem t_isN (ha : QP X W Ma ra a pa) (hb : QP X W Mb rb b pb) (hr : okR ra Mb = true := by decide) : QT X W (Ma ++ Mb) (.Compare a [.Is] [b] pos) (sT (s2 pa pb (isNG false))) := t_cmpR op_isN g_isN ha hb (nomark _) hr
theorem t_notN (ha : QP X W Ma ra a pa) (hb : QP X W Mb rb b pb) (hr : okR ra Mb = true := by decide) : QT X W (Ma ++ Mb) (.Compare a [.IsNot] [b] pos) (sT (s2 pa pb (isNG true))) := t_cmpR op_notN g_notN ha hb (nomark _) hr
theorem t_not (ha : QT X W M a ta) : QT X W M (.UnaryOp .Not a pos) (sNot ta) := ⟨PT_imp (pt_not ha.run) fun σ H Qv ⟨n, ow, env, Q, E, s, hq, k, x⟩ => ⟨n, ow, env, _, E, s, hq, fun b H' ow' env' y s' o z => k _ H' ow' env' y s' o z, x⟩⟩
theorem QW.t (h : QW X W M e ta) : QT X W M e ta := ⟨h.run.pt⟩
theorem PW_imp {t t' : TT} (h : PW X e t) (f : ∀ σ H Q, t' σ H Q → t σ H Q) : PW X e t' := ⟨fun wh pins s σ H Q I q => h.run wh pins s σ H Q I (f _ _ _ q)⟩
theorem w_and1 (ha : QT X W M a ta) : QW X W M (.BoolOp .And [a] pos) ta := ⟨pw_and1 ha.run⟩
theorem w_or1 (ha : QT X W M a ta) : QW X W M (.BoolOp .Or [a] pos) ta := ⟨pw_or1 ha.run⟩
theorem w_and (ha : QT X W Ma a ta) (hb : QW X W Mb (.BoolOp .And (b :: rest) pos) tb) : QW X W (Ma ++ Mb) (.BoolOp .And (a :: b :: rest) pos) (sAnd ta tb) := ⟨PW_imp (pw_and ha.run hb.run) fun σ H Qv ⟨n, ow, env, Q, E, s, hq, k, x⟩ =>
  ⟨n, ow, env, _, E, s, hq, fun c H1 ow1 env1 y1 s1 o1 z => by
    cases c with
    | true => exact ⟨n, ow1, env1, Q, E, s1, z.1 rfl, fun d H2 ow2 env2 y2 s2 o2 z2 => k d H2 ow2 env2 (y1.trans y2 subl subr (Nat.le_refl _) (Nat.le_refl _)) s2 (o1.trans o2 subl subr) z2, x.step y1 o1 subl subr (Nat.le_refl _) (Nat.le_refl _)⟩
    | false => exact k false H1 ow1 env1 (y1.mono subl (Nat.le_refl _)) s1 (o1.mono subl) (z.2 rfl), fun r d H' ow' env' y s' o => x r d H' ow' env' (y.mono subl (Nat.le_refl _)) s' (o.mono subl)⟩⟩
theorem w_orM (ha : QT X W Ma a ta) (hb : QW X W Mb (.BoolOp .Or (b :: rest) pos) tb) : QW X W (Ma ++ Mb) (.BoolOp .Or (a :: b :: rest) pos) (sOrM ta tb) := ⟨PW_imp (pw_or ha.run hb.run) fun σ H Qv ⟨n, ow, env, Q, E, s, hq, k, x⟩ =>
  ⟨n, ow, env, _, E, s, hq, fun c H1 ow1 env1 y1 s1 o1 z => by
    obtain ⟨b', z1, z2⟩ := z
    cases c with
    | false =>
      refine ⟨n, ow1, env1, _, _, s1, z1 rfl, fun d H2 ow2 env2 y2 s2 o2 q2 => ?_, fun r d H' ow' env' y s' o zz ez => ez.elim⟩
      obtain ⟨rfl, rfl⟩ := q2
      exact k d H2 ow2 env2 (y1.trans y2 subl subr (Nat.le_refl _) (Nat.le_refl _)) s2 (o1.trans o2 subl subr) z2
    | true => exact k true H1 ow1 env1 (y1.mono subl (Nat.le_refl _)) s1 (o1.mono subl) z2, fun r d H' ow' env' y s' o => x r d H' ow' env' (y.mono subl (Nat.le_refl _)) s' (o.mono subl)⟩⟩
def sAndV (qa qb : SemE) : SemE := fun env Q E => sT qa env (fun c env1 => (c = true → qb env1 Q E) ∧ (c = false → Q (.fz (.bl false)) env1)) E
theorem q_one {op} (h : QE X W M a q) : QE X W M (.BoolOp op [a] pos) q := ⟨pe_one h.run⟩
theorem bl_of {K : PySem.W.Frag} {H : Hp} {ow : Ow} {l : Lab} {v : V} {b : Bool} (r : Tq K H ow l v (.fz (.bl b))) : v = .bl b := by have := Tq.rd r; cases this; rfl
theorem q_and (ha : QE X W Ma a qa) (hb : QE X W Mb (.BoolOp .And (b :: rest) pos) qb) : QE X W (Ma ++ Mb) (.BoolOp .And (a :: b :: rest) pos) (sAndV qa qb) := ⟨PE_imp (pe_and ha.run hb.run) fun σ H Qv ⟨n, ow, env, Q, E, s, hq, k, x⟩ =>
  ⟨n, ow, env, _, E, s, hq, fun v t H1 ow1 env1 y1 s1 o1 r1 z => by
    split at z
    · rename_i c
      refine ⟨c, bl_of r1, ?_⟩
      cases c with
      | true =>
        rw [if_pos rfl]
        exact ⟨n, ow1, env1, Q, E, s1, z.1 rfl, fun v2 t2 H2 ow2 env2 y2 s2 o2 r2 z2 => k v2 t2 H2 ow2 env2 (y1.trans y2 subl subr (Nat.le_refl _) (Nat.le_refl _)) s2 (o1.trans o2 subl subr) r2 z2, x.step y1 o1 subl subr (Nat.le_refl _) (Nat.le_refl _)⟩
      | false =>
        rw [if_neg Bool.false_ne_true]
        exact k _ _ H1 ow1 env1 (y1.mono subl (Nat.le_refl _)) s1 (o1.mono subl) (Tq.fz_.mpr (.bl _)) (z.2 rfl)
    · exact z.elim, fun r d H' ow' env' y s' o => x r d H' ow' env' (y.mono subl (Nat.le_refl _)) s' (o.mono subl)⟩⟩
end
end QV

set_option Elab.async false
set_option linter.all false
set_option maxRecDepth 100000
set_option maxHeartbeats 2000000
namespace QV
open PySem L2

structure EndsQ where
  nx : Env → Prop
  rt : T → Env → Prop
  bk : Env → Prop
  ct : Env → Prop
  ex : XQ
abbrev SemS := EndsQ → Env → Prop
structure Fs (H : Hp) (ow : Ow) (H' : Hp) (ow' : Ow) : Prop where
  go : ∀ a o, H a = some o → (ow a = .fr ∨ ow a = .base) → H' a = some o ∧ ow' a = ow a
  tp : ∀ a vs, H a = some (.tup vs) → H' a = some (.tup vs)
instance {H : Hp} {ow : Ow} {H' : Hp} {ow' : Ow} : CoeFun (Fs H ow H' ow') (fun _ => ∀ a o, H a = some o → (ow a = .fr ∨ ow a = .base) → H' a = some o ∧ ow' a = ow a) := ⟨Fs.go⟩
def Ios (IO : List Nat) (σ σ' : L2.St) : Prop := ∀ i ∈ IO, σ'[i]? = σ[i]?
section
variable {K : PySem.W.Frag} {H H' H1 H2 : Hp} {ow ow' ow1 ow2 : Ow} {M : List Nat} {n : Nat} {σ σ' σ1 : L2.St} {IO : List Nat}
theorem Stp.fs (x : Stp M n H ow H' ow') : Fs H ow H' ow' := ⟨fun a o e q => x a o e (by rcases q with q | q <;> rw [q] <;> trivial), x.tp⟩
theorem Fs.refl : Fs H ow H ow := ⟨fun _ _ e _ => ⟨e, rfl⟩, fun _ _ e => e⟩
theorem Fs.trans (x : Fs H ow H1 ow1) (y : Fs H1 ow1 H2 ow2) : Fs H ow H2 ow2 := ⟨fun a o e q => by
  obtain ⟨e1, q1⟩ := x a o e q
  obtain ⟨e2, q2⟩ := y a o e1 (by rw [q1]; exact q)
  exact ⟨e2, q2.trans q1⟩, fun a vs e => y.tp a vs (x.tp a vs e)⟩
theorem Fs.bs (x : Fs H ow H' ow') : Same (Bs H ow) (Bs H' ow') := bs_map (fun a o e q => by
  obtain ⟨h1, h2⟩ := x a o e (.inr q)
  exact ⟨h1, h2.trans q⟩) x.tp
theorem Ios.refl : Ios IO σ σ := fun _ _ => rfl
theorem Ios.trans (x : Ios IO σ σ1) (y : Ios IO σ1 σ') : Ios IO σ σ' := fun i h => (y i h).trans (x i h)
end
def Bh (K : PySem.W.Frag) (IO : List Nat) (σ : L2.St) (H : Hp) (ow : Ow) (D : L2.St → Hp → Prop) (De : Env → Prop) : Prop :=
  ∀ (σ' : L2.St) (H' : Hp) (ow' : Ow) (env' : Env), Fs H ow H' ow' → Ios IO σ σ' → StOk K H' ow' σ' env' → De env' → D σ' H'
def BhR (K : PySem.W.Frag) (IO : List Nat) (σ : L2.St) (H : Hp) (ow : Ow) (D : VK) (De : T → Env → Prop) : Prop :=
  ∀ (v : V) (t : T) (σ' : L2.St) (H' : Hp) (ow' : Ow) (env' : Env), Fs H ow H' ow' → Ios IO σ σ' → StOk K H' ow' σ' env' → Tq K H' ow' (.tm 0) v t → De t env' → D v H'
def BhX (K : PySem.W.Frag) (W : WX) (IO : List Nat) (σ : L2.St) (H : Hp) (ow : Ow) (De : XQ) : Prop :=
  ∀ (r : Rz) (d : Option Addr) (σ' : L2.St) (H' : Hp) (ow' : Ow) (env' : Env), Fs H ow H' ow' → Ios IO σ σ' → StOk K H' ow' σ' env' → Rzp K H' ow' d r → De r env' → W (.ref r.C) d σ' H'
structure Bhs (K : PySem.W.Frag) (W : WX) (IO : List Nat) (σ : L2.St) (H : Hp) (ow : Ow) (D : Ends) (De : EndsQ) : Prop where
  nx : Bh K IO σ H ow D.nx De.nx
  rt : BhR K IO σ H ow D.rt De.rt
  bk : Bh K IO σ H ow D.bk De.bk
  ct : Bh K IO σ H ow D.ct De.ct
  ex : BhX K W IO σ H ow De.ex
def tS (K : PySem.W.Frag) (W : WX) (IO : List Nat) (q : SemS) : TS := fun D σ H => ∃ (ow : Ow) (env : Env) (De : EndsQ), StOk K H ow σ env ∧ q De env ∧ Bhs K W IO σ H ow D De
structure QS (X : Cx) (W : WX) (IO : List Nat) (st : Stmt) (q : SemS) : Prop where
  run : PS X st (tS X.K W IO q)
structure QSs (X : Cx) (W : WX) (IO : List Nat) (st : List Stmt) (q : SemS) : Prop where
  run : PSs X st (tS X.K W IO q)
theorem PS_imp {X : Cx} {st : Stmt} {t t' : TS} (h : PS X st t) (f : ∀ D σ H, t' D σ H → t D σ H) : PS X st t' := ⟨fun pins s σ H D I q => h.run pins s σ H D I (f _ _ _ q)⟩
theorem PSs_imp {X : Cx} {st : List Stmt} {t t' : TS} (h : PSs X st t) (f : ∀ D σ H, t' D σ H → t D σ H) : PSs X st t' := ⟨fun pins s σ H D I q => h.run pins s σ H D I (f _ _ _ q)⟩
section
variable {K : PySem.W.Frag} {W : WX} {IO : List Nat} {σ σ1 : L2.St} {H H1 : Hp} {ow ow1 : Ow} {D : Ends} {De : EndsQ}
theorem Bh.step {D : L2.St → Hp → Prop} {De : Env → Prop} (k : Bh K IO σ H ow D De) (x : Fs H ow H1 ow1) (y : Ios IO σ σ1) : Bh K IO σ1 H1 ow1 D De := fun σ' H' ow' env' f i s z => k σ' H' ow' env' (x.trans f) (y.trans i) s z
theorem BhR.step {D : VK} {De : T → Env → Prop} (k : BhR K IO σ H ow D De) (x : Fs H ow H1 ow1) (y : Ios IO σ σ1) : BhR K IO σ1 H1 ow1 D De := fun v t σ' H' ow' env' f i s z => k v t σ' H' ow' env' (x.trans f) (y.trans i) s z
theorem BhX.step {De : XQ} (k : BhX K W IO σ H ow De) (x : Fs H ow H1 ow1) (y : Ios IO σ σ1) : BhX K W IO σ1 H1 ow1 De := fun v t σ' H' ow' env' f i s z => k v t σ' H' ow' env' (x.trans f) (y.trans i) s z
theorem Bhs.step (k : Bhs K W IO σ H ow D De) (x : Fs H ow H1 ow1) (y : Ios IO σ σ1) : Bhs K W IO σ1 H1 ow1 D De := ⟨k.nx.step x y, k.rt.step x y, k.bk.step x y, k.ct.step x y, k.ex.step x y⟩
theorem BhX.xk {M : List Nat} {n : Nat} {env : Env} {E : XQ} (k : BhX K W IO σ H ow E) : Xk K W M σ H n ow env E := fun r d H' ow' env' y s _ z e => k r d σ H' ow' env' y.fs Ios.refl s z e
end

def sSeq (a b : SemS) : SemS := fun D env => a { D with nx := b D } env
def sNext : SemS := fun D env => D.nx env
def sSet (i : Nat) (q : SemE) : SemS := fun D env => q env (fun t env1 => D.nx (env1.set i (some t))) D.ex
def sRet (q : SemE) : SemS := fun D env => q env D.rt D.ex
def sDrop (q : SemE) : SemS := fun D env => q env (fun _ env1 => D.nx env1) D.ex
def sIfS (t : SemT) (a b : SemS) : SemS := fun D env => t env (fun c env1 => (c = true → a D env1) ∧ (c = false → b D env1)) D.ex
inductive CutG (q : SemS) (D : EndsQ) (env : Env) : Prop
  | mk (h : ∃ R : Env → Prop, q { D with nx := R } env ∧ ∀ env', R env' → D.nx env')
  | no (h : False)
theorem CutG.ex {q : SemS} {D : EndsQ} {env : Env} : CutG q D env → ∃ R : Env → Prop, q { D with nx := R } env ∧ ∀ env', R env' → D.nx env'
  | .mk h => h
  | .no h => h.elim
def sCut (q : SemS) : SemS := fun D env => CutG q D env
theorem StOk.set {K : PySem.W.Frag} {H : Hp} {ow : Ow} {σ : L2.St} {env : Env} {i : Nat} {v : V} {t : T} (s : StOk K H ow σ env) (h : Tq K H ow (.sl i) v t) : StOk K H ow (σ.set i (some v)) (env.set i (some t)) := ⟨by rw [List.length_set, List.length_set]; exact s.len, fun j u e => by
  by_cases hj : i = j
  · subst hj
    have hl : i < env.length := by
      refine Nat.lt_of_not_le fun z => ?_
      rw [List.getElem?_eq_none (by simpa using z)] at e
      cases e
    rw [List.getElem?_set_self hl] at e
    cases e
    exact ⟨v, List.getElem?_set_self (by rw [← s.len]; exact hl), h⟩
  · rw [List.getElem?_set_ne hj] at e
    obtain ⟨w, e1, q⟩ := s.at_ j u e
    exact ⟨w, by rw [List.getElem?_set_ne hj]; exact e1, q⟩⟩
section
variable {X : Cx} {W : WX} {IO M : List Nat} {e : Expr} {q : SemE} {st : Stmt} {rest : List Stmt} {a b : SemS} {pos pos' : Pos}
theorem ss_nil : QSs X W IO [] sNext := ⟨PSs_imp pss_nil fun D σ H ⟨ow, env, De, s, hq, k⟩ => k.nx σ H ow env Fs.refl Ios.refl s hq⟩
theorem seq_run {K : PySem.W.Frag} {t u : TS} {a b : SemS} {D : Ends} {σ : L2.St} {H : Hp} (h : tS K W IO (sSeq a b) D σ H) (f1 : ∀ D, tS K W IO a D σ H → t D σ H) (f2 : ∀ σ' H', tS K W IO b D σ' H' → u D σ' H') : tSeq t u D σ H := by
  obtain ⟨ow, env, De, s, hq, k⟩ := h
  exact f1 _ ⟨ow, env, _, s, hq, ⟨fun σ' H' ow' env' x y s' z => f2 σ' H' ⟨ow', env', De, s', z, k.step x y⟩, k.rt, k.bk, k.ct, k.ex⟩⟩
theorem ss_cons (h1 : QS X W IO st a) (h2 : QSs X W IO rest b) : QSs X W IO (st :: rest) (sSeq a b) := ⟨PSs_imp (pss_cons h1.run h2.run) fun _ _ _ h => seq_run h (fun _ z => z) fun _ _ z => z⟩
theorem ss_one (h1 : QS X W IO st a) : QSs X W IO [st] a := ⟨pss_one h1.run⟩
theorem s_expr (he : QE X W M e q) (hs : swapsWith e none pos.line X.env = pure false := by rfl) : QS X W IO (.Expr e pos) (sDrop q) := ⟨PS_imp (ps_expr he.run hs) fun D σ H ⟨ow, env, De, s, hq, k⟩ =>
  ⟨0, ow, env, _, De.ex, s, hq, fun v t H' ow' env' y s' _ r z => k.nx σ H' ow' env' y.fs Ios.refl s' z, k.ex.xk⟩⟩
theorem s_ret (he : QE X W M e q) : QS X W IO (.Return (some e) pos) (sRet q) := ⟨PS_imp (ps_ret he.run) fun D σ H ⟨ow, env, De, s, hq, k⟩ =>
  ⟨0, ow, env, _, De.ex, s, hq, fun v t H' ow' env' y s' _ r z => k.rt v t σ H' ow' env' y.fs Ios.refl s' r z, k.ex.xk⟩⟩
theorem s_if {c : Expr} {sa sb : List Stmt} {tc : SemT} (hc : QT X W M c tc) (ha : QSs X W IO sa a) (hb : QSs X W IO sb b) : QS X W IO (.If c sa sb pos) (sIfS tc a b) := ⟨PS_imp (ps_if hc.run ha.run hb.run) fun D σ H ⟨ow, env, De, s, hq, k⟩ =>
  ⟨0, ow, env, _, De.ex, s, hq, fun d H' ow' env' y s' _ z => by
    cases d with
    | true => rw [if_pos rfl]; exact ⟨ow', env', De, s', z.1 rfl, k.step y.fs Ios.refl⟩
    | false => rw [if_neg Bool.false_ne_true]; exact ⟨ow', env', De, s', z.2 rfl, k.step y.fs Ios.refl⟩, k.ex.xk⟩⟩
theorem QS.cut (h : QS X W IO st a) : QS X W IO st (sCut a) := ⟨PS_imp h.run fun D σ H ⟨ow, env, De, s, hG, k⟩ =>
  have ⟨R, hq, hR⟩ := hG.ex
  ⟨ow, env, { De with nx := R }, s, hq, ⟨fun σ' H' ow' env' x y s' z => k.nx σ' H' ow' env' x y s' (hR _ z), k.rt, k.bk, k.ct, k.ex⟩⟩⟩
theorem into_slot {K : PySem.W.Frag} {H : Hp} {ow : Ow} {σ : L2.St} {env : Env} {i : Nat} {v : V} {t : T} (s : StOk K H ow σ env) (r : Tq K H ow (.tm 0) v t) : Stp [] 0 H ow H (Ow.mv ow (.tm 0) (.sl i)) ∧ StOk K H (Ow.mv ow (.tm 0) (.sl i)) (σ.set i (some v)) (env.set i (some t)) :=
  have y : Stp [] 0 H ow H (Ow.mv ow (.tm 0) (.sl i)) := Stp.mv not_tm
  ⟨y, (s.stp0 y).set (r.mv fun z => nomatch z)⟩
theorem ios_set {IO : List Nat} {σ : L2.St} {i : Nat} {v : Option V} (h : i ∉ IO) : Ios IO σ (σ.set i v) := fun j hj => List.getElem?_set_ne fun z => h (by rw [z]; exact hj)
theorem s_set (i : Nat) {x : Str} (he : QE X W M e q) (hN : X.N.Nodup) (hi : X.N[i]? = some x := by rfl) (hx : Loc X.env.scope x := by first | exact Or.inl rfl | exact Or.inr rfl) (hio : i ∉ IO := by decide)
    (hs : swapsWith e (some (.Name x pos')) pos.line X.env = pure false := by rfl) (hf : X.fn x = true ∨ X.env.scope.names.lookup x = some .local := by first | exact .inl rfl | exact .inr rfl) : QS X W IO (.Assign [.Name x pos'] e pos) (sSet i q) :=
  ⟨PS_imp (ps_set (i := i) hN hi hx he.run hs hf) fun D σ H ⟨ow, env, De, s, hq, k⟩ => ⟨0, ow, env, _, De.ex, s, hq, fun v t H' ow' env' y s' _ r z =>
    have ⟨y2, s2⟩ := into_slot s' r
    k.nx _ _ _ _ (y.fs.trans y2.fs) (ios_set hio) s2 z, k.ex.xk⟩⟩
end
end QV

set_option Elab.async false
set_option linter.all false
set_option maxRecDepth 100000
set_option maxHeartbeats 2000000
namespace QV
open PySem L2

structure Tch (SS : List Nat) (σ σ' : L2.St) : Prop where
  len : σ'.length = σ.length
  eq : ∀ i, i ∉ SS → σ'[i]? = σ[i]?
theorem Tch.refl {SS : List Nat} {σ : L2.St} : Tch SS σ σ := ⟨rfl, fun _ _ => rfl⟩
theorem Tch.trans {S1 S2 S3 : List Nat} {σ σ1 σ2 : L2.St} (x : Tch S1 σ σ1) (y : Tch S2 σ1 σ2) (h1 : ∀ i ∈ S1, i ∈ S3) (h2 : ∀ i ∈ S2, i ∈ S3) : Tch S3 σ σ2 := ⟨y.len.trans x.len, fun i hi => (y.eq i fun z => hi (h2 i z)).trans (x.eq i fun z => hi (h1 i z))⟩
theorem Tch.ios {SS IO : List Nat} {σ σ' : L2.St} (x : Tch SS σ σ') (h : ∀ i ∈ IO, i ∉ SS) : Ios IO σ σ' := fun i hi => x.eq i (h i hi)
abbrev SemG := D → Env → (Env → Prop) → Prop
abbrev SemGs := List D → Env → (Env → Prop) → Prop
def tG (K : PySem.W.Frag) (SS : List Nat) (g : SemG) : TG := fun v σ H Q => ∃ (ow : Ow) (env : Env) (d : D) (k : Env → Prop), StOk K H ow σ env ∧ Rp K (Bs H ow) v d ∧ g d env k ∧
  ∀ σ' env', Tch SS σ σ' → Out SS env env' → StOk K H ow σ' env' → k env' → Q σ' H
def tGs (K : PySem.W.Frag) (SS : List Nat) (g : SemGs) : TGs := fun vs σ H Q => ∃ (ow : Ow) (env : Env) (ds : List D) (k : Env → Prop), StOk K H ow σ env ∧ Rps K (Bs H ow) vs ds ∧ g ds env k ∧
  ∀ σ' env', Tch SS σ σ' → Out SS env env' → StOk K H ow σ' env' → k env' → Q σ' H
structure QG (X : Cx) (SS : List Nat) (tg : Expr) (g : SemG) : Prop where
  run : PG X tg (tG X.K SS g)
structure QGs (X : Cx) (SS : List Nat) (tg : List Expr) (g : SemGs) : Prop where
  run : PGs X tg (tGs X.K SS g)
theorem PG_imp {X : Cx} {e : Expr} {t t' : TG} (h : PG X e t) (f : ∀ v σ H Q, t' v σ H Q → t v σ H Q) : PG X e t' := ⟨fun pins s σ H v u Q I r q => h.run pins s σ H v u Q I r (f _ _ _ _ q)⟩
theorem PGs_imp {X : Cx} {e : List Expr} {t t' : TGs} (h : PGs X e t) (f : ∀ v σ H Q, t' v σ H Q → t v σ H Q) : PGs X e t' := ⟨fun pins s σ H v u Q I r q => h.run pins s σ H v u Q I r (f _ _ _ _ q)⟩
def gN (i : Nat) : SemG := fun d env k => k (env.set i (some (.fz d)))
def gNil0 : SemGs := fun ds env k => match ds with
  | [] => k env
  | _ => False
def gCons0 (g : SemG) (gs : SemGs) : SemGs := fun ds env k => match ds with
  | d :: ds => g d env fun env' => gs ds env' k
  | _ => False
def gTup0 (n : Nat) (gs : SemGs) : SemG := fun d env k => match d with
  | .nd .tup ds => ds.length = n ∧ gs ds env k
  | _ => False
section
variable {X : Cx} {SS S1 S2 IO : List Nat} {e : Expr} {es : List Expr} {g : SemG} {gs : SemGs} {pos : Pos}
theorem g_name (i : Nat) {x : Str} (hN : X.N.Nodup) (hi : X.N[i]? = some x := by rfl) (hx : Loc X.env.scope x := by first | exact Or.inl rfl | exact Or.inr rfl) (hf : X.fn x = true ∨ X.env.scope.names.lookup x = some .local := by first | exact .inl rfl | exact .inr rfl) : QG X [i] (.Name x pos) (gN i) :=
  ⟨PG_imp (pg_name (i := i) hN hi hx hf) fun v σ H Q ⟨ow, env, d, k, s, r, hq, h⟩ => h _ _ ⟨List.length_set, fun j hj => List.getElem?_set_ne fun z => hj (by simp [z])⟩ Out.set1 (s.set (Tq.fz_.mpr r)) hq⟩
theorem gs_nil : QGs X [] [] gNil0 := ⟨PGs_imp pgs_nil fun vs σ H Q ⟨ow, env, ds, k, s, r, hq, h⟩ => by
  cases r with
  | nil => exact ⟨rfl, h _ _ Tch.refl Out.refl s hq⟩
  | cons _ _ => exact hq.elim⟩
theorem gs_cons (h1 : QG X S1 e g) (h2 : QGs X S2 es gs) (hs : (assignEach (e :: es) X.env).map (·.2) = assign e X.env :: (assignEach es X.env).map (·.2) := by rfl) : QGs X (S1 ++ S2) (e :: es) (gCons0 g gs) := ⟨PGs_imp (pgs_cons h1.run h2.run hs) fun vs σ H Q ⟨ow, env, ds, k, s, r, hq, h⟩ => by
  cases r with
  | nil => exact hq.elim
  | cons r1 r2 => exact ⟨_, _, rfl, ow, env, _, _, s, r1, hq, fun σ' env' i1 o1 s1 z => ⟨ow, env', _, k, s1, r2, z, fun σ2 env2 i2 o2 s2 z2 => h σ2 env2 (i1.trans i2 subl subr) (o1.trans o2 subl subr) s2 z2⟩⟩⟩
theorem g_tup {k : Nat} {n : Nat} (hc : X.calm = true) (h : QGs X SS es gs) (hn : (assignEach es X.env).length = n := by rfl) (hst : (assignEach es X.env).findIdx? (·.1) = none := by rfl) : QG X SS (.Tuple es k pos) (gTup0 n gs) := ⟨PG_imp (pg_tup hc h.run hn hst) fun v σ H Q ⟨ow, env, d, k, s, r, hq, h⟩ => by
  unfold gTup0 at hq
  split at hq
  · cases r with
    | tup c z r => exact ⟨_, _, rfl, sqT_of (bs_same H ow _ _ c), by rw [r.len]; exact hq.1, ow, env, _, k, s, r, hq.2, h⟩
    | cell hn _ _ => exact absurd rfl hn
  · exact hq.elim⟩
def sAsgT (q : SemE) (g : SemG) : SemS := fun D env => q env (fun t env1 => match t with
  | .fz d => g d env1 D.nx
  | _ => False) D.ex
theorem s_asgT {W : WX} {M : List Nat} {tg : Expr} {q : SemE} (he : QE X W M e q) (hg : QG X SS tg g) (hio : ∀ i ∈ IO, i ∉ SS := by decide) (hs : swapsWithSole [tg] e pos.line X.env = pure false := by rfl) (hw : swappedStores [tg] e X.env = pure none := by rfl)
    (h1 : (assignEach [tg] X.env).map (·.2) = [assign tg X.env] := by rfl) : QS X W IO (.Assign [tg] e pos) (sAsgT q g) := ⟨PS_imp (ps_asg he.run hg.run hs hw h1) fun D σ H ⟨ow, env, De, s, hq, k⟩ =>
  ⟨0, ow, env, _, De.ex, s, hq, fun v t H' ow' env' y s' _ r z => by
    split at z
    · exact ⟨ow', env', _, _, s', Tq.fz_.mp r, z, fun σ2 env2 i2 _ s2 z2 => k.nx _ _ _ _ y.fs (i2.ios hio) s2 z2⟩
    · exact z.elim, k.ex.xk⟩⟩
end

def Ext (H : Hp) (ow : Ow) (H' : Hp) (ow' : Ow) : Prop := ∀ a o, H a = some o → H' a = some o ∧ ow' a = ow a
theorem Ext.refl {H : Hp} {ow : Ow} : Ext H ow H ow := fun _ _ e => ⟨e, rfl⟩
theorem Ext.stp {M : List Nat} {n : Nat} {H H' : Hp} {ow ow' : Ow} (x : Ext H ow H' ow') : Stp M n H ow H' ow' := ⟨fun a o e _ => x a o e, fun a vs e => (x a _ e).1⟩
theorem Ext.new {H : Hp} {ow : Ow} {p : Addr} {o : HO} {l : Lab} (h : H p = none) : Ext H ow (upd H p o) (Ow.put ow p l) := fun a u e => by
  have ne := ne_of_none e h
  exact ⟨by rw [upd_ne ne]; exact e, put_ne ne⟩
structure ItD (K : PySem.W.Frag) (H : Hp) (ow : Ow) (J : It) (ds : List D) : Prop where
  go : ∀ (i : Nat) (d : D) (H' : Hp) (ow' : Ow), Fs H ow H' ow' → ds[i]? = some d → J.go i H'
  yld : ∀ (i : Nat) (d : D) (H' : Hp) (ow' : Ow) (x : V) (H2 : Hp), Fs H ow H' ow' → ds[i]? = some d → J.yld i H' x H2 → ∃ ow2, Ext H' ow' H2 ow2 ∧ Rp K (Bs H2 ow2) x d
  stop : ∀ (H' : Hp) (ow' : Ow), Fs H ow H' ow' → J.stop ds.length H'
  sz : ds.length ≤ sizeLine
abbrev SemI := Env → (List D → Env → Prop) → XQ → Prop
def tI (K : PySem.W.Frag) (W : WX) (M : List Nat) (q : SemI) : TI := fun σ H R => ∃ (n : Nat) (ow : Ow) (env : Env) (Q : List D → Env → Prop) (E : XQ), StOk K H ow σ env ∧ q env Q E ∧
  (∀ (J : It) (ds : List D) (H' : Hp) (ow' : Ow) (env' : Env), Stp M n H ow H' ow' → StOk K H' ow' σ env' → Out M env env' → ItD K H' ow' J ds → Q ds env' → R J H') ∧ Xk K W M σ H n ow env E
structure QI (X : Cx) (W : WX) (M : List Nat) (tg e : Expr) (q : SemI) : Prop where
  run : PI X tg e (tI X.K W M q)
theorem PI_imp {X : Cx} {tg e : Expr} {t t' : TI} (h : PI X tg e t) (f : ∀ σ H R, t' σ H R → t σ H R) : PI X tg e t' := ⟨fun pins s σ H R I q => h.run pins s σ H R I (f _ _ _ q)⟩
section
variable {K : PySem.W.Frag} {H : Hp} {ow : Ow}
theorem itd_list {a : Addr} {vs : List V} {ds : List D} (h : SqL K (Bs H ow) a vs) (hz : vs.length ≤ sizeLine) (r : Rps K (Bs H ow) vs ds) : ItD K H ow (Itl K a) ds := by
  have st : ∀ {H' : Hp} {ow' : Ow}, Fs H ow H' ow' → SqL K H' a vs := fun x => ((bs_same _ _).seq (x.bs.seq h))
  refine ⟨fun i d H' ow' x e => ?_, fun i d H' ow' y H2 x e q => ?_, fun H' ow' x => ⟨vs, st x, Nat.le_of_eq r.len⟩, by rw [← r.len]; exact hz⟩
  · obtain ⟨v, e1, _⟩ := r.get e
    exact ⟨vs, v, st x, e1⟩
  · obtain ⟨rfl, hy⟩ := q
    obtain ⟨v, e1, r1⟩ := r.get e
    have ev := hy vs (st x)
    rw [e1] at ev
    cases ev
    exact ⟨ow', Ext.refl, r1.mono x.bs⟩
def rngD (lo : Int) (n : Nat) : List D := (List.range n).map fun k => D.int (lo + (k : Nat))
theorem rngD_len {lo : Int} {n : Nat} : (rngD lo n).length = n := by unfold rngD; rw [List.length_map, List.length_range]
theorem rngD_get {lo : Int} {n i : Nat} {d : D} (h : (rngD lo n)[i]? = some d) : i < n ∧ d = .int (lo + (i : Nat)) := by
  unfold rngD at h
  rw [List.getElem?_map] at h
  by_cases hi : i < n
  · rw [List.getElem?_range hi] at h
    cases h
    exact ⟨hi, rfl⟩
  · rw [List.getElem?_eq_none (by simpa using hi)] at h
    cases h
theorem itd_rng {lo : Int} {n : Nat} (hz : n ≤ sizeLine) : ItD K H ow (Itr lo n) (rngD lo n) :=
  ⟨fun i d H' ow' x e => (rngD_get e).1, fun i d H' ow' y H2 x e q => by
    obtain ⟨rfl, rfl⟩ := q
    rw [(rngD_get e).2]
    exact ⟨ow', Ext.refl, .int _⟩, fun H' ow' x => Nat.le_of_eq rngD_len.symm, by rw [rngD_len]; exact hz⟩
def enumD (ds : List D) : List D := (List.range ds.length).zipWith (fun k d => D.nd .tup [.int (k : Nat), d]) ds
theorem enumD_get {ds : List D} {i : Nat} {d : D} (h : (enumD ds)[i]? = some d) : ∃ e, ds[i]? = some e ∧ d = .nd .tup [.int (i : Nat), e] := by
  unfold enumD at h
  rw [List.getElem?_zipWith] at h
  cases e : ds[i]? with
  | none => rw [e] at h; split at h <;> simp_all
  | some y =>
    have hi : i < ds.length := (List.getElem?_eq_some_iff.mp e).1
    rw [e, List.getElem?_range hi] at h
    cases h
    exact ⟨y, rfl, rfl⟩
theorem enumD_len {ds : List D} : (enumD ds).length = ds.length := by unfold enumD; rw [List.length_zipWith, List.length_range, Nat.min_self]
theorem itd_enum {a : Addr} {vs : List V} {ds : List D} (h : SqL K (Bs H ow) a vs) (hz : vs.length ≤ sizeLine) (r : Rps K (Bs H ow) vs ds) : ItD K H ow (Ite K a) (enumD ds) := by
  have st : ∀ {H' : Hp} {ow' : Ow}, Fs H ow H' ow' → SqL K H' a vs := fun x => ((bs_same _ _).seq (x.bs.seq h))
  refine ⟨fun i d H' ow' x e => ?_, fun i d H' ow' y H2 x e q => ?_, fun H' ow' x => ⟨vs, st x, by rw [enumD_len]; exact Nat.le_of_eq r.len⟩, by rw [enumD_len, ← r.len]; exact hz⟩
  · obtain ⟨e', e1, _⟩ := enumD_get e
    obtain ⟨v, e2, _⟩ := r.get e1
    exact ⟨vs, v, st x, e2⟩
  · obtain ⟨Tt, v, rfl, hn, rfl, hy⟩ := q
    obtain ⟨e', e1, rfl⟩ := enumD_get e
    obtain ⟨w, e2, r1⟩ := r.get e1
    have ev := hy vs (st x)
    rw [e2] at ev
    cases ev
    have y : Ext H' ow' (upd H' Tt (.tup [.int (i : Nat), v])) (Ow.put ow' Tt .base) := Ext.new hn
    refine ⟨_, y, .tup ?_ (by show 2 ≤ sizeLine; decide) (.cons (.int _) (.cons (r1.mono ?_) .nil))⟩
    · rw [bs_of put_same, upd_same]
    · intro b o eb
      exact (y.stp (M := []) (n := 0)).bs b o (x.bs b o eb)
theorem itd_rev {a : Addr} {vs : List V} {ds : List D} (h : SqL K (Bs H ow) a vs) (hz : vs.length ≤ sizeLine) (r : Rps K (Bs H ow) vs ds) : ItD K H ow (Itv K a vs.length) ds.reverse := by
  have st : ∀ {H' : Hp} {ow' : Ow}, Fs H ow H' ow' → SqL K H' a vs := fun x => ((bs_same _ _).seq (x.bs.seq h))
  have len := r.len
  have g : ∀ {i : Nat} {d : D}, ds.reverse[i]? = some d → i < vs.length ∧ ∃ v, vs[vs.length - 1 - i]? = some v ∧ Rp K (Bs H ow) v d := fun {i d} e => by
    have hi : i < ds.length := by have := (List.getElem?_eq_some_iff.mp e).1; simpa using this
    rw [List.getElem?_reverse hi] at e
    obtain ⟨v, e1, r1⟩ := r.get e
    exact ⟨by omega, v, by rw [len]; exact e1, r1⟩
  refine ⟨fun i d H' ow' x e => ?_, fun i d H' ow' y H2 x e q => ?_, fun H' ow' x => by show vs.length ≤ _; rw [List.length_reverse]; omega, by rw [List.length_reverse, ← len]; exact hz⟩
  · obtain ⟨h1, v, e1, _⟩ := g e
    exact ⟨h1, vs, v, st x, e1⟩
  · obtain ⟨rfl, hy⟩ := q
    obtain ⟨h1, v, e1, r1⟩ := g e
    have ev := hy vs (st x)
    rw [e1] at ev
    cases ev
    exact ⟨ow', Ext.refl, r1.mono x.bs⟩
end
section
variable {X : Cx} {W : WX} {M Ma Mb : List Nat} {e a b tg : Expr} {q qa qb : SemE} {p pos : Pos}
def iSeq (q : SemE) (f : List D → List D) : SemI := fun env Q E => q env (fun t env1 => match t with
  | .fz (.nd .lst ds) => Q (f ds) env1
  | _ => False) E
theorem fz_lst {K : PySem.W.Frag} {H : Hp} {ow : Ow} {l : Lab} {v : V} {ds : List D} (r : Tq K H ow l v (.fz (.nd .lst ds))) : ∃ a vs, v = .ref a ∧ SqL K (Bs H ow) a vs ∧ vs.length ≤ sizeLine ∧ Rps K (Bs H ow) vs ds := by
  cases Tq.fz_.mp r with
  | cell _ c r => exact ⟨_, _, rfl, .inl (.inl c.at_), c.sz, r⟩
theorem i_list (h : QE X W M e q) : QI X W M tg e (iSeq q id) := ⟨PI_imp (pi_list h.run) fun σ H R ⟨n, ow, env, Q, E, s, hq, k, x⟩ => ⟨n, ow, env, _, E, s, hq, fun v t H' ow' env' y s' o r z => by
  split at z
  · obtain ⟨a, vs, rfl, c, hz, r⟩ := fz_lst r
    exact ⟨a, rfl, ⟨vs, (bs_same _ _).seq c⟩, k _ _ H' ow' env' y s' o (itd_list c hz r) z⟩
  · exact z.elim, x⟩⟩
theorem PA_imp {es : List Expr} {t t' : TA} (h : PA X es t) (f : ∀ σ H Q, t' σ H Q → t σ H Q) : PA X es t' := ⟨fun pos pins s σ H Q I q => h.run pos pins s σ H Q I (f _ _ _ q)⟩
def iRng (q : SemE) : SemI := fun env Q E => q env (fun t env1 => match t with
  | .fz (.int n) => n ≤ sizeLine ∧ -(2 ^ 62) ≤ n ∧ Q (rngD 0 n.toNat) env1
  | _ => False) E
theorem line62 : (sizeLine : Int) < 2 ^ 62 := by rw [sizeLine_eq]; decide
theorem i_rng (hg : Gl X "range") (hm : X.mg "range" = none) (h : QE X W M e q) (hs : starEach [e] X.env = [(false, eval e X.env)] := by rfl) : QI X W M tg (.Call (.Name "range" p) [e] [] pos) (iRng q) :=
  ⟨PI_imp (pi_range1 hg hm (pa_cons h.run pa_nil hs) hs) fun σ H R ⟨n, ow, env, Q, E, s, hq, k, x⟩ => ⟨n, ow, env, _, E, s, hq, fun v t H' ow' env' y s' o r z => by
    split at z
    · rename_i m
      have := Tq.rd r
      cases this
      have l62 := line62
      exact ⟨m, rfl, by omega, by omega, k _ _ H' ow' env' y s' o (itd_rng (by omega)) z.2.2⟩
    · exact z.elim, x⟩⟩
def iRng2 (qa qb : SemE) : SemI := fun env Q E => qa env (fun t env1 => qb env1 (fun u env2 => match t, u with
  | .fz (.int i), .fz (.int j) => -(2 ^ 62) ≤ i ∧ i < 2 ^ 62 ∧ -(2 ^ 62) ≤ j ∧ j < 2 ^ 62 ∧ j - i ≤ sizeLine ∧ Q (rngD i (j - i).toNat) env2
  | _, _ => False) E) E
theorem i_rng2 (hg : Gl X "range") (hm : X.mg "range" = none) (ha : QE X W Ma a qa) (hb : QE X W Mb b qb) (hs : starEach [a, b] X.env = [(false, eval a X.env), (false, eval b X.env)] := by rfl) (hs2 : starEach [b] X.env = [(false, eval b X.env)] := by rfl) :
    QI X W (Ma ++ Mb) tg (.Call (.Name "range" p) [a, b] [] pos) (iRng2 qa qb) :=
  ⟨PI_imp (pi_range2 hg hm (pa_cons ha.run (pa_cons hb.run pa_nil (by rw [hs2]; rfl)) (by rw [hs, hs2])) hs hs2) fun σ H R ⟨n, ow, env, Q, E, s, hq, k, x⟩ => ⟨n, ow, env, _, E, s, hq, fun v t H1 ow1 env1 y1 s1 o1 r1 z1 =>
    ⟨n + 1, ow1, env1, _, E, s1, z1, fun w u H2 ow2 env2 y2 s2 o2 r2 z2 => by
      split at z2
      · rename_i i j
        have e1 := Tq.rd r1
        cases e1
        have e2 := Tq.rd r2
        cases e2
        obtain ⟨h1, h2, h3, h4, h5, z2⟩ := z2
        exact ⟨i, j, rfl, ⟨h1, h2, h3, h4⟩, k _ _ H2 ow2 env2 (y1.trans y2 subl subr (Nat.le_refl _) (Nat.le_succ _)) s2 (o1.trans o2 subl subr) (itd_rng (by omega)) z2⟩
      · exact z2.elim, x.step y1 o1 subl subr (Nat.le_refl _) (Nat.le_succ _)⟩, fun r d H' ow' env' y s' o => x r d H' ow' env' (y.mono subl (Nat.le_refl _)) s' (o.mono subl)⟩⟩
theorem i_enum {elts : List Expr} {kk : Nat} {tpos : Pos} (hg : Gl X "enumerate") (hm : X.mg "enumerate" = none) (h : QE X W M e q) (hs : starEach [e] X.env = [(false, eval e X.env)] := by rfl) : QI X W M (.Tuple elts kk tpos) (.Call (.Name "enumerate" p) [e] [] pos) (iSeq q enumD) :=
  ⟨PI_imp (pi_enum hg hm (pa_cons h.run pa_nil hs) hs) fun σ H R ⟨n, ow, env, Q, E, s, hq, k, x⟩ => ⟨n, ow, env, _, E, s, hq, fun v t H' ow' env' y s' o r z => by
    split at z
    · obtain ⟨a, vs, rfl, c, hz, r⟩ := fz_lst r
      exact ⟨a, vs, rfl, (bs_same _ _).seq c, k _ _ H' ow' env' y s' o (itd_enum c hz r) z⟩
    · exact z.elim, x⟩⟩
theorem i_rev (hg : Gl X "reversed") (hm : X.mg "reversed" = none) (h : QE X W M e q) (hs : starEach [e] X.env = [(false, eval e X.env)] := by rfl) : QI X W M tg (.Call (.Name "reversed" p) [e] [] pos) (iSeq q List.reverse) :=
  ⟨PI_imp (pi_reversed hg hm (pa_cons h.run pa_nil hs) hs) fun σ H R ⟨n, ow, env, Q, E, s, hq, k, x⟩ => ⟨n, ow, env, _, E, s, hq, fun v t H' ow' env' y s' o r z => by
    split at z
    · obtain ⟨a, vs, rfl, c, hz, r⟩ := fz_lst r
      exact ⟨a, vs, rfl, (bs_same _ _).seq c, k _ _ H' ow' env' y s' o (itd_rev c hz r) z⟩
    · exact z.elim, x⟩⟩
end

inductive ForG (g : SemG) (body : SemS) (D : EndsQ) (ds : List QV.D) (env1 : Env) : Prop
  | mk (h : ∃ I : Nat → Env → Prop, I 0 env1 ∧ (∀ j d env', ds[j]? = some d → I j env' → g d env' fun env2 => body { D with nx := I (j + 1), ct := I (j + 1), bk := D.nx } env2) ∧ ∀ env', I ds.length env' → D.nx env')
  | no (h : False)
theorem ForG.ex {g : SemG} {body : SemS} {D : EndsQ} {ds : List QV.D} {env1 : Env} : ForG g body D ds env1 → ∃ I : Nat → Env → Prop, I 0 env1 ∧ (∀ j d env', ds[j]? = some d → I j env' → g d env' fun env2 => body { D with nx := I (j + 1), ct := I (j + 1), bk := D.nx } env2) ∧ ∀ env', I ds.length env' → D.nx env'
  | .mk h => h
  | .no h => h.elim
def sFor (i : SemI) (g : SemG) (body : SemS) : SemS := fun D env => i env (fun ds env1 => ForG g body D ds env1) D.ex
inductive WhileG (t : SemT) (body : SemS) (D : EndsQ) (env : Env) : Prop
  | mk (h : ∃ I : Nat → Env → Prop, (∃ m, I m env) ∧ ∀ m env', I m env' → t env' (fun c env1 => (c = true → body { D with nx := fun e => ∃ m', m' < m ∧ I m' e, ct := fun e => ∃ m', m' < m ∧ I m' e, bk := D.nx } env1) ∧ (c = false → D.nx env1)) D.ex)
  | no (h : False)
theorem WhileG.ex {t : SemT} {body : SemS} {D : EndsQ} {env : Env} : WhileG t body D env → ∃ I : Nat → Env → Prop, (∃ m, I m env) ∧ ∀ m env', I m env' → t env' (fun c env1 => (c = true → body { D with nx := fun e => ∃ m', m' < m ∧ I m' e, ct := fun e => ∃ m', m' < m ∧ I m' e, bk := D.nx } env1) ∧ (c = false → D.nx env1)) D.ex
  | .mk h => h
  | .no h => h.elim
def sWhile (t : SemT) (body : SemS) : SemS := fun D env => WhileG t body D env
def putE (env : Env) : List Nat → List (Option T) → Env
  | i :: is, v :: vs => putE (env.set i v) is vs
  | _, _ => env
theorem ForG.fr {g : SemG} {body : SemS} {D : EndsQ} {ds : List QV.D} {env : Env} (ms : List Nat) (I : Nat → List (Option T) → Prop) (h0 : ∃ vs, env = putE env ms vs ∧ I 0 vs)
    (hs : ∀ j d vs, ds[j]? = some d → I j vs → g d (putE env ms vs) fun env2 => body { D with nx := fun e => ∃ us, e = putE env ms us ∧ I (j + 1) us, ct := fun e => ∃ us, e = putE env ms us ∧ I (j + 1) us, bk := D.nx } env2) (he : ∀ vs, I ds.length vs → D.nx (putE env ms vs)) : ForG g body D ds env :=
  .mk ⟨fun j e => ∃ vs, e = putE env ms vs ∧ I j vs, h0, fun j d env' hd ⟨vs, e, i⟩ => by subst e; exact hs j d vs hd i, fun env' ⟨vs, e, i⟩ => by subst e; exact he vs i⟩
theorem WhileG.fr {t : SemT} {body : SemS} {D : EndsQ} {env : Env} (ms : List Nat) (I : Nat → List (Option T) → Prop) (h0 : ∃ m vs, env = putE env ms vs ∧ I m vs)
    (hs : ∀ m vs, I m vs → t (putE env ms vs) (fun c env1 => (c = true → body { D with nx := fun e => ∃ m', m' < m ∧ ∃ us, e = putE env ms us ∧ I m' us, ct := fun e => ∃ m', m' < m ∧ ∃ us, e = putE env ms us ∧ I m' us, bk := D.nx } env1) ∧ (c = false → D.nx env1)) D.ex) : WhileG t body D env :=
  .mk ⟨fun m e => ∃ vs, e = putE env ms vs ∧ I m vs, h0, fun m env' ⟨vs, e, i⟩ => by subst e; exact hs m vs i⟩
theorem CutG.fr {q : SemS} {D : EndsQ} {env : Env} (ms : List Nat) (R : List (Option T) → Prop) (h : q { D with nx := fun e => ∃ us, e = putE env ms us ∧ R us } env) (he : ∀ vs, R vs → D.nx (putE env ms vs)) : CutG q D env :=
  .mk ⟨fun e => ∃ us, e = putE env ms us ∧ R us, h, fun env' ⟨vs, e, i⟩ => by subst e; exact he vs i⟩
section
variable {X : Cx} {W : WX} {M IO SS : List Nat} {iter tg c : Expr} {body : List Stmt} {i : SemI} {g : SemG} {b : SemS} {tc : SemT} {pos : Pos}
theorem s_for (hp : PassesOwn (model X.prog X.w) X.A X.env X.xe) (hc : X.calm = true) (hi : QI X W M tg iter i) (hg : QG X SS tg g) (hb : QSs X W IO body b) (hio : ∀ i ∈ IO, i ∉ SS := by decide) (hs : ∀ x, foldedSetIterable iter X.env x = pure x := by intro _; rfl) : QS X W IO (.For tg iter body [] pos) (sFor i g b) :=
  ⟨PS_imp (ps_for hp hc hi.run hg.run hb.run hs) fun D σ H ⟨ow, env, De, s, hq, k⟩ => ⟨0, ow, env, _, De.ex, s, hq, fun J ds H1 ow1 env1 y1 s1 _ J1 hF => by
    obtain ⟨I, i0, it, ie⟩ := hF.ex
    refine ⟨fun j m σ' H' => m = ds.length - j ∧ j ≤ ds.length ∧ ∃ ow' env', Fs H1 ow1 H' ow' ∧ Ios IO σ σ' ∧ StOk X.K H' ow' σ' env' ∧ I j env', ⟨ds.length, by simp, Nat.zero_le _, ow1, env1, Fs.refl, Ios.refl, s1, i0⟩, ?_⟩
    rintro j m σ' H' ⟨rfl, hj, ow', env', fs, io, s', ij⟩
    by_cases hlt : j < ds.length
    · have hd : ds[j]? = some ds[j] := by simp [hlt]
      refine .inr ⟨J1.go j _ H' ow' fs hd, fun σ2 H2 => ∃ ow2 env2, Fs H1 ow1 H2 ow2 ∧ Ios IO σ σ2 ∧ StOk X.K H2 ow2 σ2 env2 ∧ I (j + 1) env2, fun σ2 H2 ⟨ow2, env2, q⟩ => ⟨ds.length - (j + 1), by omega, rfl, hlt, ow2, env2, q⟩, fun x H2 yl => ?_⟩
      obtain ⟨ow2, ex, rx⟩ := J1.yld j _ H' ow' x H2 fs hd yl
      have y2 : Stp [] 0 H' ow' H2 ow2 := ex.stp
      refine ⟨ow2, env', _, _, s'.stp0 y2, rx, it j _ env' hd ij, fun σ3 env3 tc3 _ s3 z3 => ?_⟩
      have io3 := tc3.ios hio
      have fs2 := fs.trans y2.fs
      refine ⟨ow2, env3, _, s3, z3, ⟨fun σ4 H4 ow4 env4 f4 i4 s4 z4 => ⟨ow4, env4, fs2.trans f4, (io.trans io3).trans i4, s4, z4⟩, (k.rt.step (y1.fs.trans fs2) (io.trans io3)), (k.nx.step (y1.fs.trans fs2) (io.trans io3)), fun σ4 H4 ow4 env4 f4 i4 s4 z4 => ⟨ow4, env4, fs2.trans f4, (io.trans io3).trans i4, s4, z4⟩, k.ex.step (y1.fs.trans fs2) (io.trans io3)⟩⟩
    · have e : j = ds.length := by omega
      subst e
      exact .inl ⟨J1.stop H' ow' fs, k.nx σ' H' ow' env' (y1.fs.trans fs) io s' (ie env' ij)⟩, k.ex.xk⟩⟩
theorem s_while (hp : PassesOwn (model X.prog X.w) X.A X.env X.xe) (hc : QT X W M c tc) (hb : QSs X W IO body b) : QS X W IO (.While c body [] pos) (sWhile tc b) :=
  ⟨PS_imp (ps_while hp hc.run hb.run) fun D σ H ⟨ow, env, De, s, hF, k⟩ => by
    obtain ⟨I, ⟨m0, i0⟩, it⟩ := hF.ex
    refine ⟨fun m σ' H' => ∃ ow' env', Fs H ow H' ow' ∧ Ios IO σ σ' ∧ StOk X.K H' ow' σ' env' ∧ I m env', ⟨m0, ow, env, Fs.refl, Ios.refl, s, i0⟩, ?_⟩
    rintro m σ' H' ⟨ow', env', fs, io, s', im⟩
    refine ⟨0, ow', env', _, De.ex, s', it m env' im, fun d H2 ow2 env2 y2 s2 _ z => ?_, (k.ex.step fs io).xk⟩
    cases d with
    | true =>
      rw [if_pos rfl]
      have fs2 := fs.trans y2.fs
      refine ⟨fun σ3 H3 => ∃ m', m' < m ∧ ∃ ow3 env3, Fs H ow H3 ow3 ∧ Ios IO σ σ3 ∧ StOk X.K H3 ow3 σ3 env3 ∧ I m' env3, fun σ3 H3 q => q, ow2, env2, _, s2, z.1 rfl, ⟨fun σ4 H4 ow4 env4 f4 i4 s4 ⟨m', hm, z4⟩ => ⟨m', hm, ow4, env4, fs2.trans f4, io.trans i4, s4, z4⟩, k.rt.step fs2 io, k.nx.step fs2 io, fun σ4 H4 ow4 env4 f4 i4 s4 ⟨m', hm, z4⟩ => ⟨m', hm, ow4, env4, fs2.trans f4, io.trans i4, s4, z4⟩, k.ex.step fs2 io⟩⟩
    | false =>
      rw [if_neg Bool.false_ne_true]
      exact k.nx σ' H2 ow2 env2 (fs.trans y2.fs) io s2 (z.2 rfl)⟩
end
end QV

set_option Elab.async false
set_option linter.all false
set_option maxRecDepth 100000
set_option maxHeartbeats 2000000
namespace QV
open PySem PySem.Spec PyProof.Rows L2

structure FnG (P : Program) (w : World) (K : PySem.W.Frag) (mg : Str → Option Value) (base : Heap) (k : Nat) (f : Addr) (fd : FuncData) (ps : List Str) (sp : Sp) : Prop where
  len : ∀ vs H Q E, sp vs H Q E → vs.length = ps.length
  run : ∀ (A : Around) (outer : List PySem.Env) (s : Shared) (H : Hp) (args : Args) (us : List Value) (vs : List V) (Q : VK) (E : XK), Room k A → A.guards = some [] → Env0 P w K mg base A outer s H → BindsTo s fd args (ps.zip us) → Vals vs us → sp vs H Q E →
    codeAny (model P w) A (.call (.ref f) args) (CR (L2.CX P w) outer P w H s Q E) s
section
variable {P : Program} {w : World} {K : PySem.W.Frag} {mg : Str → Option Value} {base : Heap}
theorem fnG_of {k : Nat} {x qual : Str} {st : Stmt} {f : Addr} {fd : FuncData} {N ps : List Str} {sp : Sp} (F : Fun K x qual st f fd) (S : FnScope N ps (defScope st)) (len : ∀ vs H Q E, sp vs H Q E → vs.length = ps.length)
    (hb : ∀ (cdv : Value) (A : Around) (outer : List PySem.Env) (s : Shared) (H : Hp) (vs : List V) (Q : VK) (E : XK), Room k (A.deeper (envOfC qual (defScope st) s.heap.objs.size f cdv)) → A.guards = some [] → sp vs H Q E →
      ∃ t, PSs (cxOf (L2.CX P w) P w K mg base N qual (defScope st) f cdv A outer s H E) (defBody st) t ∧ t { nx := fun _ H' => Q .non H', rt := Q } (L2.start N vs) H) : FnG P w K mg base (k + 1) f fd ps sp := by
  obtain ⟨oc, od, kV, doc, pm, an, cdv, ct, osl, rfl, lk, hcd⟩ := F.ex
  constructor
  · exact len
  · intro A outer s H args us vs Q E hr hG e0 hbind rv hsp
    have hlen := len _ _ _ _ hsp
    have kin : K.In s.heap := e0.mod.kin.keeps fun b o e => (e0.bs b o e).1
    have nl : s.heap.NoLimit := e0.mod.nolimit.keeps fun b o e => (e0.bs b o e).1
    have kinds : ∀ y ∈ ps.zip us, (defScope st).names.lookup y.1 = some .local ∨ ((defScope st).names.lookup y.1 = some .cell ∧ ((cellsFrom (s.heap.objs.size + 1) (defScope st).names []).lookup y.1).isSome = true) := by
      rintro ⟨m, u⟩ hy
      rcases S.par m (List.of_mem_zip hy).1 with q | q
      · exact .inl q
      · exact .inr ⟨q, PySem.W.cellsFrom_some _ _ _ (.inl q)⟩
    apply codeAny_call_function hr.depth (kin _ _ lk) rfl S.co S.gen rfl (PySem.W.codeRec_of kin hcd) (hbind _ _ _ _ _)
    refine wpAny_newFunctionEnv_cells S.kind kinds ?_
    rintro env rfl s1 ic
    refine ⟨nl.keeps ic.toInCall.keep, codeAny_func ?_⟩
    obtain ⟨t, ht, q⟩ := hb cdv A outer s H vs Q E (hr.deeper _) hG hsp
    have I0 : Inv (cxOf (L2.CX P w) P w K mg base N qual (defScope st) f cdv A outer s H E) [] (L2.start N vs) H s1 := inv_start S hr.hd e0 hlen rv ic
    refine wpAny_mono (ht.run [] s1 (L2.start N vs) H _ I0 q) ?_ fun _ _ z => z
    intro fl s' z
    cases fl with
    | ret u =>
      obtain ⟨v, σ', H', J, r, qq⟩ := z
      exact ⟨v, H', J.os, J.bare, J.base, J.hok, r, qq⟩
    | next =>
      obtain ⟨σ', H', J, qq⟩ := z
      exact ⟨.non, H', J.os, J.bare, J.base, J.hok, rfl, qq⟩
    | brk =>
      obtain ⟨_, _, _, qq⟩ := z
      exact qq.elim
    | cont =>
      obtain ⟨_, _, _, qq⟩ := z
      exact qq.elim
theorem FnG.mono {j k : Nat} {f : Addr} {fd : FuncData} {ps : List Str} {sp : Sp} (F : FnG P w K mg base j f fd ps sp) (h : j ≤ k) : FnG P w K mg base k f fd ps sp := ⟨F.len, fun A outer s H args us vs Q E hr => F.run A outer s H args us vs Q E (hr.mono h)⟩
theorem FnG.imp {k : Nat} {f : Addr} {fd : FuncData} {ps : List Str} {sp sp' : Sp} (F : FnG P w K mg base k f fd ps sp) (h : ∀ vs H Q E, sp' vs H Q E → sp vs H Q E) : FnG P w K mg base k f fd ps sp' :=
  ⟨fun vs H Q E q => F.len vs H Q E (h _ _ _ _ q), fun A outer s H args us vs Q E hr hg he hb hv hs => F.run A outer s H args us vs Q E hr hg he hb hv (h _ _ _ _ hs)⟩
end
section
variable {X : Cx} {W : WX} {k : Nat} {f C : Addr} {fd : FuncData} {ps : List Str} {sp : Sp} {x m : Str} {p pos apos : Pos} {e o : Expr} {es : List Expr} {ta : TE} {t : TA}
theorem runG {pins : List (Addr × Obj)} {σ : L2.St} {H : Hp} {s : Shared} {Q : VK} {us : List Value} {vs : List V} (F : FnG X.prog X.w X.K X.mg X.base k f fd ps sp) (hr : Room k X.A) (hG : X.A.guards = some []) (hb : Binds X.K fd ps []) (tk : L2.Takes X W)
    (I : Inv X pins σ H s) (r : Vals vs us) (h : sp vs H Q fun cls d H' => W cls d σ H') : wpAny (model X.prog X.w) X.A (call (.ref f) us) (EP X pins σ Q) X.xe s := by
  have hl : (us ++ []).length = ps.length := by rw [List.append_nil, ← r.length]; exact F.len _ _ _ _ h
  have hb2 : BindsTo s fd ⟨us, []⟩ (ps.zip us) := by have := hb s us I.kIn hl; rwa [List.append_nil] at this
  apply wpAny_call
  refine codeAny_mono (F.run X.A X.stack s H ⟨us, []⟩ us vs Q _ hr hG I.env0 hb2 r h) ?_
  intro res s' z
  cases res with
  | error ex => exact tk _ _ (XE.of_call I (fun _ _ _ q => q) z)
  | ok fl =>
    cases fl with
    | ret u => exact I.after z
    | next => exact z.elim
    | brk => exact z.elim
    | cont => exact z.elim
theorem pe_callG (F : FnG X.prog X.w X.K X.mg X.base k f fd ps sp) (hr : Room k X.A) (hG : X.A.guards = some []) (hg : Gl X x) (hm : X.mg x = some (.ref f)) (hk : PySem.W.keepIn X.K (.ref f) = true) (hb : Binds X.K fd ps []) (tk : L2.Takes X W)
    (ha : PA X (e :: es) t) (hdb : (x == ("__debug__" : Str)) = false := by decide) (he : starEach (e :: es) X.env = (false, eval e X.env) :: starEach es X.env := by rfl) (hpl : (backTo pos (starEach es X.env)).any (·.1) = false := by rfl) :
    PE X (.Call (.Name x p) (e :: es) [] pos) (fun σ H Q => t σ H fun vs H1 => sp vs H1 Q fun cls d H' => W cls d σ H') := by
  constructor
  intro pins s σ H Q I h
  apply wpAny_Call_Name_kw
  refine ld_glob I hg hm ?_ hdb
  refine PySem.W.callWith_K (h₀ := X.base) I.ok.mod.kin hk ?_ he hpl
  refine thn (ha.run pos pins s σ H _ I h) ?_
  rintro us s1 ⟨vs, H1, I1, r, q⟩
  exact ⟨I1.kIn, runG F hr hG hb tk I1 r q⟩
end

abbrev SemF := List T → (T → List T → Prop) → (Rz → List T → Prop) → Prop
def spQ (K : PySem.W.Frag) (n : Nat) (io : List Nat) (spec : SemF) : Sp := fun vs H Qv E => vs.length = n ∧ ∃ (ow : Ow) (args : List T) (Q : T → List T → Prop) (EE : Rz → List T → Prop),
  args.length = n ∧ (∀ (i : Nat) (t : T), args[i]? = some t → ∃ v, vs[i]? = some v ∧ Tq K H ow (.sl i) v t) ∧ spec args Q EE ∧
  (∀ (v : V) (t : T) (H' : Hp) (ow' : Ow) (outs : List T), Fs H ow H' ow' → Tq K H' ow' (.tm 0) v t → outs.length = io.length → (∀ (j i : Nat) (u : T), io[j]? = some i → outs[j]? = some u → ∃ v, vs[i]? = some v ∧ Tq K H' ow' (.sl i) v u) → Q t outs → Qv v H') ∧
  (∀ (r : Rz) (d : Option Addr) (H' : Hp) (ow' : Ow) (outs : List T), Fs H ow H' ow' → Rzp K H' ow' d r → outs.length = io.length → (∀ (j i : Nat) (u : T), io[j]? = some i → outs[j]? = some u → ∃ v, vs[i]? = some v ∧ Tq K H' ow' (.sl i) v u) → EE r outs → E (.ref r.C) d H')
def outsOf : List Nat → Env → Option (List T)
  | [], _ => some []
  | i :: is, env => match env[i]? with
    | some (some t) => match outsOf is env with
      | some ts => some (t :: ts)
      | none => none
    | _ => none
theorem outs_get : ∀ {io : List Nat} {env : Env} {ts : List T}, outsOf io env = some ts → ts.length = io.length ∧ ∀ (j i : Nat) (u : T), io[j]? = some i → ts[j]? = some u → env[i]? = some (some u)
  | [], env, ts, h => by cases h; exact ⟨rfl, fun j i u e => by simp at e⟩
  | i :: is, env, ts, h => by
    unfold outsOf at h
    split at h
    · rename_i t e
      split at h
      · rename_i us e2
        cases h
        obtain ⟨h1, h2⟩ := outs_get e2
        refine ⟨by rw [List.length_cons, List.length_cons, h1], fun j i' u ej eu => ?_⟩
        cases j with
        | zero => simp at ej eu; subst ej eu; exact e
        | succ j => exact h2 j i' u (by simpa using ej) (by simpa using eu)
      · cases h
    · cases h
def EndsF (io : List Nat) (Q : T → List T → Prop) (EE : Rz → List T → Prop) : EndsQ where
  nx := fun env => match outsOf io env with
    | some ts => Q (.fz .non) ts
    | none => False
  rt := fun t env => match outsOf io env with
    | some ts => Q t ts
    | none => False
  bk := fun _ => False
  ct := fun _ => False
  ex := fun r env => match outsOf io env with
    | some ts => EE r ts
    | none => False
def env0 (N : Nat) (args : List T) : Env := args.map some ++ List.replicate (N - args.length) none
def QFn (P : Program) (w : World) (K : PySem.W.Frag) (mg : Str → Option Value) (base : Heap) (k : Nat) (f : Addr) (fd : FuncData) (ps : List Str) (io : List Nat) (spec : SemF) : Prop := FnG P w K mg base k f fd ps (spQ K ps.length io spec)
section
variable {P : Program} {w : World} {K : PySem.W.Frag} {mg : Str → Option Value} {base : Heap}
theorem QFn.mono {j k : Nat} {f : Addr} {fd : FuncData} {ps : List Str} {io : List Nat} {spec : SemF} (F : QFn P w K mg base j f fd ps io spec) (h : j ≤ k) : QFn P w K mg base k f fd ps io spec := FnG.mono F h
theorem QFn.imp {k : Nat} {f : Addr} {fd : FuncData} {ps : List Str} {io : List Nat} {spec spec' : SemF} (F : QFn P w K mg base k f fd ps io spec) (h : ∀ a Q E, spec' a Q E → spec a Q E) : QFn P w K mg base k f fd ps io spec' :=
  FnG.imp F fun vs H Qv E ⟨hl, ow, args, Q, EE, h1, h2, h3, h4, h5⟩ => ⟨hl, ow, args, Q, EE, h1, h2, h _ _ _ h3, h4, h5⟩
theorem start_get {N : List Str} {vs : List V} {i : Nat} {v : V} (h : vs[i]? = some v) : (L2.start N vs)[i]? = some (some v) := by
  unfold L2.start
  have hi : i < vs.length := (List.getElem?_eq_some_iff.mp h).1
  rw [List.getElem?_append_left (by simpa using hi), List.getElem?_map, h]
  rfl
theorem env0_get {N : Nat} {args : List T} {i : Nat} {t : T} (h : (env0 N args)[i]? = some (some t)) : args[i]? = some t := by
  unfold env0 at h
  by_cases hi : i < args.length
  · rw [List.getElem?_append_left (by simpa using hi), List.getElem?_map] at h
    cases e : args[i]? with
    | none => rw [e] at h; cases h
    | some u => rw [e] at h; cases h; rfl
  · rw [List.getElem?_append_right (by simpa using hi), List.getElem?_replicate] at h
    split at h <;> cases h
theorem qfn_of {k : Nat} {x qual : Str} {st : Stmt} {f : Addr} {fd : FuncData} {N ps : List Str} {io : List Nat} {spec : SemF} (F : Fun K x qual st f fd) (S : FnScope N ps (defScope st)) (hio : (io.all fun i => decide (i < ps.length)) = true) (hpN : ps.length ≤ N.length)
    (hb : ∀ (cdv : Value) (A : Around) (outer : List PySem.Env) (s : Shared) (H : Hp) (E : XK) (W : WX), Room k (A.deeper (envOfC qual (defScope st) s.heap.objs.size f cdv)) → A.guards = some [] → L2.Takes (cxOf (L2.CX P w) P w K mg base N qual (defScope st) f cdv A outer s H E) W →
      PassesOwn (model P w) (A.deeper (envOfC qual (defScope st) s.heap.objs.size f cdv)) (envOfC qual (defScope st) s.heap.objs.size f cdv) (cxOf (L2.CX P w) P w K mg base N qual (defScope st) f cdv A outer s H E).xe →
      ∃ q, QSs (cxOf (L2.CX P w) P w K mg base N qual (defScope st) f cdv A outer s H E) W io (defBody st) q ∧ ∀ args Q E, args.length = ps.length → spec args Q E → q (EndsF io Q E) (env0 N.length args)) : QFn P w K mg base (k + 1) f fd ps io spec := by
  refine fnG_of F S (fun vs H Q E h => h.1) fun cdv A outer s H vs Qv E hr hG ⟨hl, ow, args, Q, EE, ha, h2, h3, h4, h5⟩ => ?_
  obtain ⟨q, hq, hs⟩ := hb cdv A outer s H E (fun cls d σ H' => E cls d H') hr hG (takes_of rfl rfl rfl rfl) (passes_of rfl)
  refine ⟨_, hq.run, ow, env0 N.length args, EndsF io Q EE, ⟨?_, fun i t e => ?_⟩, hs args Q EE ha h3, ?_⟩
  · unfold env0 L2.start
    rw [List.length_append, List.length_append, List.length_map, List.length_map, List.length_replicate, List.length_replicate, ha, hl]
  · obtain ⟨v, e1, r⟩ := h2 i t (env0_get e)
    exact ⟨v, start_get e1, r⟩
  · have outs : ∀ {σ' : L2.St} {H' : Hp} {ow' : Ow} {env' : Env} {ts : List T}, Ios io (L2.start N vs) σ' → StOk K H' ow' σ' env' → outsOf io env' = some ts → ts.length = io.length ∧ ∀ (j i : Nat) (u : T), io[j]? = some i → ts[j]? = some u → ∃ v, vs[i]? = some v ∧ Tq K H' ow' (.sl i) v u := fun {σ' H' ow' env' ts} io' s' e => by
      obtain ⟨g1, g2⟩ := outs_get e
      refine ⟨g1, fun j i u ej eu => ?_⟩
      obtain ⟨v, e1, r⟩ := s'.at_ i u (g2 j i u ej eu)
      have mi : i ∈ io := List.mem_of_getElem? ej
      rw [io' i mi] at e1
      have hi : i < vs.length := by rw [hl]; exact of_decide_eq_true (List.all_eq_true.mp hio i mi)
      have e2 : vs[i]? = some vs[i] := by simp [hi]
      rw [start_get e2] at e1
      cases e1
      exact ⟨_, e2, r⟩
    refine ⟨fun σ' H' ow' env' fs i s' z => ?_, fun v t σ' H' ow' env' fs i s' r z => ?_, fun _ _ _ _ _ _ _ z => z.elim, fun _ _ _ _ _ _ _ z => z.elim, fun r d σ' H' ow' env' fs i s' rz z => ?_⟩
    · show Qv .non H'
      simp only [EndsF] at z
      split at z
      · rename_i ts e
        obtain ⟨g1, g2⟩ := outs i s' e
        exact h4 _ _ H' ow' ts fs (Tq.fz_.mpr .non) g1 g2 z
      · exact z.elim
    · simp only [EndsF] at z
      split at z
      · rename_i ts e
        obtain ⟨g1, g2⟩ := outs i s' e
        exact h4 _ _ H' ow' ts fs r g1 g2 z
      · exact z.elim
    · simp only [EndsF] at z
      split at z
      · rename_i ts e
        obtain ⟨g1, g2⟩ := outs i s' e
        exact h5 r d H' ow' ts fs rz g1 g2 z
      · exact z.elim
end
end QV

set_option Elab.async false
set_option linter.all false
set_option maxRecDepth 100000
set_option maxHeartbeats 2000000
namespace QV
open PySem L2

abbrev SemD := Env → (List D → Env → Prop) → XQ → Prop
def tA (K : PySem.W.Frag) (W : WX) (M : List Nat) (ks : List (Option Nat)) (q : SemD) : TA := fun σ H Qv => ∃ (n : Nat) (ow : Ow) (env : Env) (Q : List D → Env → Prop) (E : XQ), StOk K H ow σ env ∧ q env Q E ∧
  (∀ (vs : List V) (ds : List D) (H' : Hp) (ow' : Ow) (env' : Env), Stp M n H ow H' ow' → StOk K H' ow' σ env' → Out M env env' → vs.length = ks.length → ds.length = ks.length →
    (∀ (j : Nat) (v : V) (d : D), vs[j]? = some v → ds[j]? = some d → (ks[j]? = some none → Rp K (Bs H' ow') v d) ∧ ∀ i, ks[j]? = some (some i) → σ[i]? = some (some v)) → Q ds env' → Qv vs H') ∧ Xk K W M σ H n ow env E
structure QA (X : Cx) (W : WX) (M : List Nat) (ks : List (Option Nat)) (es : List Expr) (q : SemD) : Prop where
  run : PA X es (tA X.K W M ks q)
def aNil : SemD := fun env Q _ => Q [] env
def aCons (q : SemE) (qs : SemD) : SemD := fun env Q E => q env (fun t env1 => match t with
  | .fz d => qs env1 (fun ds env2 => Q (d :: ds) env2) E
  | _ => False) E
def aOwn (i : Nat) (qs : SemD) : SemD := fun env Q E => match env[i]? with
  | some (some _) => qs env (fun ds env2 => Q (.non :: ds) env2) E
  | _ => False
section
variable {X : Cx} {W : WX} {M Ma Mb : List Nat} {e : Expr} {es : List Expr} {q : SemE} {qs : SemD} {ks : List (Option Nat)} {pos : Pos}
theorem a_nil : QA X W [] [] [] aNil := ⟨PA_imp pa_nil fun σ H Qv ⟨n, ow, env, Q, E, s, hq, k, x⟩ => k [] [] H ow env Stp.refl s Out.refl rfl rfl (fun j v d h => by simp at h) hq⟩
theorem a_cons (h1 : QE X W Ma e q) (h2 : QA X W Mb ks es qs) (hs : starEach (e :: es) X.env = (false, eval e X.env) :: starEach es X.env := by rfl) : QA X W (Ma ++ Mb) (none :: ks) (e :: es) (aCons q qs) :=
  ⟨PA_imp (pa_cons h1.run h2.run hs) fun σ H Qv ⟨n, ow, env, Q, E, s, hq, k, x⟩ => ⟨n, ow, env, _, E, s, hq, fun v t H1 ow1 env1 y1 s1 o1 r1 z => by
    split at z
    · refine ⟨n + 1, ow1, env1, _, E, s1, z, fun vs ds H2 ow2 env2 y2 s2 o2 l1 l2 hv z2 => ?_, x.step y1 o1 subl subr (Nat.le_refl _) (Nat.le_succ _)⟩
      refine k _ _ H2 ow2 env2 (y1.trans y2 subl subr (Nat.le_refl _) (Nat.le_succ _)) s2 (o1.trans o2 subl subr) (by rw [List.length_cons, List.length_cons, l1]) (by rw [List.length_cons, List.length_cons, l2]) (fun j v' d' ev ed => ?_) z2
      cases j with
      | zero =>
        simp at ev ed
        subst ev ed
        exact ⟨fun _ => (Tq.fz_.mp r1).mono y2.bs, fun i hi => by simp at hi⟩
      | succ j => exact hv j v' d' (by simpa using ev) (by simpa using ed)
    · exact z.elim, fun r d H' ow' env' y s' o => x r d H' ow' env' (y.mono subl (Nat.le_refl _)) s' (o.mono subl)⟩⟩
theorem a_own (i : Nat) {x : Str} {px : Pos} (h2 : QA X W Mb ks es qs) (hN : X.N[i]? = some x := by rfl) (hv : Vis X.env.scope x := by first | exact Or.inl rfl | exact Or.inr (Or.inl rfl) | exact Or.inr (Or.inr rfl)) (hd : (x == ("__debug__" : Str)) = false := by decide)
    (hcd : (x == ("__classdict__" : Str)) = false := by decide) (hs : starEach (.Name x px :: es) X.env = (false, eval (.Name x px) X.env) :: starEach es X.env := by rfl) : QA X W Mb (some i :: ks) (.Name x px :: es) (aOwn i qs) :=
  ⟨PA_imp (pa_cons (pe_var (i := i) hN hv hd hcd) h2.run hs) fun σ H Qv ⟨n, ow, env, Q, E, s, hq, k, x⟩ => by
    unfold aOwn at hq
    split at hq
    · rename_i t e
      obtain ⟨v, e1, r⟩ := s.at_ i t e
      refine ⟨v, e1, n, ow, env, _, E, s, hq, fun vs ds H2 ow2 env2 y2 s2 o2 l1 l2 hv z2 => ?_, x⟩
      refine k _ _ H2 ow2 env2 y2 s2 o2 (by rw [List.length_cons, List.length_cons, l1]) (by rw [List.length_cons, List.length_cons, l2]) (fun j v' d' ev ed => ?_) z2
      cases j with
      | zero =>
        simp at ev ed
        subst ev ed
        exact ⟨fun h => by simp at h, fun i' hi => by simp at hi; subst hi; exact e1⟩
      | succ j => exact hv j v' d' (by simpa using ev) (by simpa using ed)
    · exact hq.elim⟩
theorem rps_of {K : PySem.W.Frag} {B : Hp} : ∀ {n : Nat} {vs : List V} {ds : List D}, vs.length = n → ds.length = n → (∀ (j : Nat) (v : V) (d : D), vs[j]? = some v → ds[j]? = some d → Rp K B v d) → Rps K B vs ds
  | 0, [], [], _, _, _ => .nil
  | n + 1, v :: vs, d :: ds, h1, h2, h => .cons (h 0 v d rfl rfl) (rps_of (n := n) (by simpa using h1) (by simpa using h2) fun j v' d' e1 e2 => h (j + 1) v' d' (by simpa using e1) (by simpa using e2))
theorem tA_data {K : PySem.W.Frag} {σ : L2.St} {H : Hp} {Qv : List V → Hp → Prop} {m : Nat} {ow : Ow} {env : Env} {Q : List D → Env → Prop} {E : XQ} (hk : (ks.all fun x => x.isNone) = true) (s : StOk K H ow σ env) (hq : qs env Q E) (x : Xk K W M σ H m ow env E)
    (k : ∀ (vs : List V) (ds : List D) (H' : Hp) (ow' : Ow) (env' : Env), Stp M m H ow H' ow' → StOk K H' ow' σ env' → Out M env env' → vs.length = ks.length → Rps K (Bs H' ow') vs ds → Q ds env' → Qv vs H') : tA K W M ks qs σ H Qv :=
  ⟨m, ow, env, Q, E, s, hq, fun vs ds H' ow' env' y s' o l1 l2 hv z => k vs ds H' ow' env' y s' o l1 (rps_of l1 l2 fun j v d e1 e2 => (hv j v d e1 e2).1 (by
    have hj : j < ks.length := by have := (List.getElem?_eq_some_iff.mp e1).1; omega
    have e : ks[j]? = some ks[j] := by simp [hj]
    have hn := List.all_eq_true.mp hk ks[j] (List.getElem_mem hj)
    rw [e]
    cases e3 : ks[j] with
    | none => rfl
    | some i => rw [e3] at hn; cases hn)) z, x⟩
def sLst (qs : SemD) : SemE := fun env Q E => qs env (fun ds env1 => Q (.ow .lst ds) env1) E
def sTup (qs : SemD) : SemE := fun env Q E => qs env (fun ds env1 => Q (.fz (.nd .tup ds)) env1) E
theorem q_lst (h : QA X W M ks es qs) (hk : (ks.all fun x => x.isNone) = true := by rfl) (hz : ks.length ≤ sizeLine := by decide) : QE X W M (.List es pos) (sLst qs) :=
  ⟨PE_imp (pe_lst h.run) fun σ H Qv ⟨n, ow, env, Q, E, s, hq, k, x⟩ => tA_data hk s hq x fun vs ds H' ow' env' y s' o l1 r z => ⟨by omega, fun p hp =>
      k _ _ _ (Ow.put ow' p (.tm n)) env' (y.trans (Stp.new hp) (fun _ h => h) nilsub (Nat.le_refl _) (Nat.le_refl _)) (s'.stp0 (n := 0) (Stp.new hp)) o (Tq.newL hp (by omega) r) z⟩⟩
theorem q_tup {x1} (h : QA X W M ks es qs) (hk : (ks.all fun x => x.isNone) = true := by rfl) (hz : ks.length ≤ sizeLine := by decide) : QE X W M (.Tuple es x1 pos) (sTup qs) :=
  ⟨PE_imp (pe_tup h.run) fun σ H Qv ⟨n, ow, env, Q, E, s, hq, k, x⟩ => tA_data hk s hq x fun vs ds H' ow' env' y s' o l1 r z => ⟨by omega, fun p hp =>
    k _ _ _ (Ow.put ow' p .base) env' (y.trans (Stp.new hp) (fun _ h => h) nilsub (Nat.le_refl _) (Nat.le_refl _)) (s'.stp0 (n := 0) (Stp.new hp)) o
      (Tq.fz_.mpr (.tup (by rw [bs_of put_same, upd_same]) (by omega) (r.mono (Stp.bs (M := []) (n := 0) (Stp.new hp))))) z⟩⟩
variable {id T' : String} {r : List V → Hp → VK → Prop} {x : Str} {p : Pos} {pa : SemP} {root : Option Nat}
theorem op1_run {K : PySem.W.Frag} {g : T → (T → Prop) → Prop} (hr : Op1 K (fun x H Q => r [x] H Q) g) {σ : L2.St} {H : Hp} {Qv : VK} (h : tQ K W M (s1 pa g) σ H Qv) : tCB r (tCons (tP K W M root pa) tNil) σ H Qv := by
  obtain ⟨n, ow, env, Q, E, s, hq, k, x⟩ := h
  exact ⟨n, ow, env, _, E, s, hq, fun v t pt H' ow' env' y1 s' o r q => hr H' ow' n v t _ Qv (r.ro s') q fun v' w H2 ow2 y2 r3 q3 => k v' w H2 ow2 env' (y1.trans y2 (fun _ h => h) nilsub (Nat.le_refl _) (Nat.le_refl _)) (s'.stp0 y2) o r3 q3, x⟩
theorem q_b1 {g : T → (T → Prop) → Prop} (hc : CallR X (.builtin id) r) (hr : Op1 X.K (fun x H Q => r [x] H Q) g) (hg : Gl X x) (hm : X.mg x = none) (hv : bootBuiltins x = some (.builtin id)) (ha : QP X W M root e pa) (hn : x ≠ "__name__" := by decide) (hdb : (x == ("__debug__" : Str)) = false := by decide)
    (he : starEach [e] X.env = (false, eval e X.env) :: starEach [] X.env := by rfl) (hpl : (backTo pos (starEach [] X.env)).any (·.1) = false := by rfl) : QE X W M (.Call (.Name x p) [e] [] pos) (s1 pa g) :=
  ⟨PE_imp (pe_callB hc hg hm hv (pa_cons ha.run pa_nil he) hn hdb he hpl) fun _ _ _ h => op1_run hr h⟩
theorem q_ty1 {g : T → (T → Prop) → Prop} (hc : CallR X (.type T') r) (hr : Op1 X.K (fun x H Q => r [x] H Q) g) (hg : Gl X x) (hm : X.mg x = none) (hv : bootBuiltins x = some (.type T')) (ha : QP X W M root e pa) (hn : x ≠ "__name__" := by decide) (hdb : (x == ("__debug__" : Str)) = false := by decide)
    (he : starEach [e] X.env = (false, eval e X.env) :: starEach [] X.env := by rfl) (hpl : (backTo pos (starEach [] X.env)).any (·.1) = false := by rfl) : QE X W M (.Call (.Name x p) [e] [] pos) (s1 pa g) :=
  ⟨PE_imp (pe_callTy hc hg hm hv (pa_cons ha.run pa_nil he) hn hdb he hpl) fun _ _ _ h => op1_run hr h⟩
end

def lenG (t : T) (Q : T → Prop) : Prop := match t with
  | .fz (.str x) => x.length ≤ sizeLine ∧ Q (.fz (.int x.length))
  | .fz (.nd .lst ds) => Q (.fz (.int ds.length))
  | .fz (.nd .tup ds) => Q (.fz (.int ds.length))
  | .ow .lst ds => Q (.fz (.int ds.length))
  | .ow .tup ds => Q (.fz (.int ds.length))
  | .nd .lst ts => Q (.fz (.int ts.length))
  | .nd .tup ts => Q (.fz (.int ts.length))
  | _ => False
section
variable {K : PySem.W.Frag} {X : Cx}
def rLenAll (K : PySem.W.Frag) : List V → Hp → VK → Prop := fun xs H Q => (∃ p ys, xs = [.ref p] ∧ (SqL K H p ys ∨ SqT K H p ys) ∧ Q (.int ys.length) H) ∨ (∃ z, xs = [.str z] ∧ z.length ≤ sizeLine ∧ Q (.int z.length) H)
theorem c_len : CallR X (.builtin "len") (rLenAll X.K) := call_len_seq.or call_len_str
theorem g_len : Op1 K (fun x H Q => rLenAll K [x] H Q) lenG := by
  intro H ow n x t Q Qv rx h k
  have fin : ∀ {a : Addr} {vs : List V} {m : Nat}, x = .ref a → (SqL K H a vs ∨ SqT K H a vs) → vs.length = m → Q (.fz (.int m)) → rLenAll K [x] H Qv := fun {a vs m} e c l q => by
    subst e l
    exact .inl ⟨a, vs, rfl, c, k _ _ H ow Stp.refl (Tq.fz_.mpr (.int _)) q⟩
  have kid : ∀ {kd : Kd} {ts : List T}, t = .nd kd ts → ∃ a dx vs, x = .ref a ∧ Cell H a dx kd vs ∧ vs.length = ts.length := fun {kd ts} e => by
    subst e
    obtain ⟨l, S, r⟩ := rx
    cases r with
    | nd c _ r => exact ⟨_, _, _, rfl, c, r.len⟩
  unfold lenG at h
  split at h
  · exact .inr ⟨_, by rw [rx.str], h.1, k _ _ H ow Stp.refl (Tq.fz_.mpr (.int _)) h.2⟩
  · obtain ⟨a, vs, e, c, _, r⟩ := rx.lst rfl
    exact fin e (.inl (.inl (.inl c))) r.len h
  · obtain ⟨a, vs, e, c, _, r⟩ := rx.tup rfl
    exact fin e (.inr c) r.len h
  · obtain ⟨a, vs, e, c, _, r⟩ := rx.lst rfl
    exact fin e (.inl (.inl (.inl c))) r.len h
  · obtain ⟨a, vs, e, c, _, r⟩ := rx.tup rfl
    exact fin e (.inr c) r.len h
  · obtain ⟨a, dx, vs, e, c, l⟩ := kid rfl
    exact fin e (.inl (.inl (.inl c.at_))) l h
  · obtain ⟨a, dx, vs, e, c, l⟩ := kid rfl
    exact fin e (.inr (.inl (.inl c.at_))) l h
  · exact h.elim
def seqT : T → Option (List D)
  | .fz (.nd .lst ds) => some ds
  | .fz (.nd .tup ds) => some ds
  | .ow .lst ds => some ds
  | .ow .tup ds => some ds
  | _ => none
theorem Ro.seq {H : Hp} {ow : Ow} {x : V} {t : T} {ds : List D} (h : Ro K H ow x t) (e : seqT t = some ds) : ∃ a vs, x = .ref a ∧ (SqL K H a vs ∨ SqT K H a vs) ∧ vs.length ≤ sizeLine ∧ Rps K (Bs H ow) vs ds := by
  unfold seqT at e
  split at e <;> first | cases e | skip
  · obtain ⟨a, vs, e, c, z, r⟩ := h.lst (ds := ds) rfl
    exact ⟨a, vs, e, .inl (.inl (.inl c)), z, r⟩
  · obtain ⟨a, vs, e, c, z, r⟩ := h.tup (ds := ds) rfl
    exact ⟨a, vs, e, .inr c, z, r⟩
  · obtain ⟨a, vs, e, c, z, r⟩ := h.lst (ds := ds) rfl
    exact ⟨a, vs, e, .inl (.inl (.inl c)), z, r⟩
  · obtain ⟨a, vs, e, c, z, r⟩ := h.tup (ds := ds) rfl
    exact ⟨a, vs, e, .inr c, z, r⟩
def listG (t : T) (Q : T → Prop) : Prop := match seqT t with
  | some ds => Q (.ow .lst ds)
  | none => False
theorem g_list : Op1 K (fun x H Q => ∃ p ys, [x] = [.ref p] ∧ (SqL K H p ys ∨ SqT K H p ys) ∧ ∀ l, H l = none → Q (.ref l) (upd H l (.lst ys))) listG := by
  intro H ow n x t Q Qv rx h k
  unfold listG at h
  split at h
  · rename_i ds e
    obtain ⟨a, vs, rfl, c, z, r⟩ := rx.seq e
    exact ⟨a, vs, rfl, c, fun p hp => k _ _ _ (Ow.put ow p (.tm n)) (Stp.new hp) (Tq.newL hp z r) h⟩
  · exact h.elim
theorem ints_of {B : Hp} : ∀ {vs : List V} {ns : List Int}, Rps K B vs (ns.map .int) → vs = ns.map V.int
  | _, [], .nil => rfl
  | _, n :: ns, .cons r s => by
    cases r
    rw [List.map_cons, ints_of s]
theorem of_ints {B : Hp} : ∀ ns : List Int, Rps K B (ns.map V.int) (ns.map .int)
  | [] => .nil
  | n :: ns => .cons (.int n) (of_ints ns)
def absG (t : T) (Q : T → Prop) : Prop := match t with
  | .fz (.int i) => Q (.fz (.int (if i < 0 then -i else i)))
  | _ => False
theorem g_abs : Op1 K (fun x H Q => ∃ i, [x] = [V.int i] ∧ Q (.int (if i < 0 then -i else i)) H) absG := by
  intro H ow n x t Q Qv rx h k
  unfold absG at h
  split at h
  · exact ⟨_, by rw [rx.int], k _ _ H ow Stp.refl (Tq.fz_.mpr (.int _)) h⟩
  · exact h.elim
end

def asm : List (Option Nat) → List D → Env → Option (List T)
  | [], [], _ => some []
  | none :: ks, d :: ds, env => match asm ks ds env with
    | some ts => some (.fz d :: ts)
    | none => none
  | some i :: ks, _ :: ds, env => match env[i]? with
    | some (some t) => match asm ks ds env with
      | some ts => some (t :: ts)
      | none => none
    | _ => none
  | _, _, _ => none
theorem asm_get : ∀ {ks : List (Option Nat)} {ds : List D} {env : Env} {ts : List T}, asm ks ds env = some ts → ts.length = ks.length ∧ ∀ (j : Nat) (t : T), ts[j]? = some t → (∃ d, ks[j]? = some none ∧ ds[j]? = some d ∧ t = .fz d) ∨ ∃ i, ks[j]? = some (some i) ∧ env[i]? = some (some t)
  | [], [], env, ts, h => by cases h; exact ⟨rfl, fun j t e => by simp at e⟩
  | none :: ks, d :: ds, env, ts, h => by
    simp only [asm] at h
    split at h
    · rename_i us e
      cases h
      obtain ⟨h1, h2⟩ := asm_get e
      refine ⟨by rw [List.length_cons, List.length_cons, h1], fun j t et => ?_⟩
      cases j with
      | zero => simp at et; subst et; exact .inl ⟨d, rfl, rfl, rfl⟩
      | succ j => simpa using h2 j t (by simpa using et)
    · cases h
  | some i :: ks, d :: ds, env, ts, h => by
    simp only [asm] at h
    split at h
    · rename_i u eu
      split at h
      · rename_i us e
        cases h
        obtain ⟨h1, h2⟩ := asm_get e
        refine ⟨by rw [List.length_cons, List.length_cons, h1], fun j t et => ?_⟩
        cases j with
        | zero => simp at et; subst et; exact .inr ⟨i, rfl, eu⟩
        | succ j => simpa using h2 j t (by simpa using et)
      · cases h
    · cases h
  | [], _ :: _, _, _, h => by simp [asm] at h
  | none :: _, [], _, _, h => by simp [asm] at h
  | some _ :: _, [], _, _, h => by simp [asm] at h
def putO : List Nat → List T → Env → Env
  | i :: is, t :: ts, env => putO is ts (env.set i (some t))
  | _, _, env => env
theorem putO_len : ∀ (cs : List Nat) (ts : List T) (env : Env), (putO cs ts env).length = env.length
  | [], _, _ => by simp [putO]
  | _ :: _, [], _ => by simp [putO]
  | i :: is, t :: ts, env => by simp [putO, putO_len is ts]
theorem putO_out : ∀ (cs : List Nat) (ts : List T) (env : Env) (i : Nat), i ∉ cs → (putO cs ts env)[i]? = env[i]?
  | [], _, _, _, _ => by simp [putO]
  | _ :: _, [], _, _, _ => by simp [putO]
  | c :: cs, t :: ts, env, i, h => by
    simp only [putO]
    rw [putO_out cs ts _ i fun z => h (List.mem_cons_of_mem _ z), List.getElem?_set_ne fun z => h (by rw [z]; exact List.mem_cons_self)]
theorem putO_in : ∀ (cs : List Nat) (ts : List T) (env : Env) (i : Nat) (t : T), cs.Nodup → ts.length = cs.length → i ∈ cs → (putO cs ts env)[i]? = some (some t) → ∃ j : Nat, cs[j]? = some i ∧ ts[j]? = some t
  | [], _, _, _, _, _, _, h, _ => by simp at h
  | c :: cs, [], _, _, _, _, h, _, _ => by simp at h
  | c :: cs, u :: ts, env, i, t, nd, hl, hi, h => by
    rw [List.nodup_cons] at nd
    simp only [putO] at h
    by_cases e : i ∈ cs
    · obtain ⟨j, h1, h2⟩ := putO_in cs ts _ i t nd.2 (by simpa using hl) e h
      exact ⟨j + 1, by simpa using h1, by simpa using h2⟩
    · have e1 : i = c := by rcases List.mem_cons.mp hi with z | z; exact z; exact absurd z e
      subst e1
      rw [putO_out _ _ _ _ e] at h
      by_cases hl2 : i < env.length
      · rw [List.getElem?_set_self hl2] at h
        cases h
        exact ⟨0, rfl, rfl⟩
      · rw [List.getElem?_eq_none (by simpa using hl2)] at h
        cases h
def okK (ks : List (Option Nat)) (io cs : List Nat) : Bool := decide (cs.Nodup) && decide (io.length = cs.length) && (io.zip cs).all (fun p => decide (ks[p.1]? = some (some p.2))) && (List.range ks.length).all fun j => match ks[j]? with
  | some (some i) => decide (j ∈ io) && decide (i ∈ cs)
  | _ => true
def sCall (spec : SemF) (ks : List (Option Nat)) (cs : List Nat) (qs : SemD) : SemE := fun env Q E => qs env (fun ds env1 => match asm ks ds env1 with
  | some args => spec args (fun t outs => Q t (putO cs outs env1)) (fun r outs => E r (putO cs outs env1))
  | none => False) E
def labIn (io cs : List Nat) : Lab → Lab
  | .base => .base
  | .sl i => match (cs.zip io).lookup i with
    | some p => .sl p
    | none => .fr
  | _ => .fr
def labBack (io cs : List Nat) (n : Nat) (old : Lab) : Lab → Lab
  | .fr => old
  | .base => .base
  | .sl p => match (io.zip cs).lookup p with
    | some i => .sl i
    | none => .tm n
  | .tm _ => .tm n
theorem lookup_zip {α β : Type} [BEq α] [LawfulBEq α] : ∀ {as : List α} {bs : List β} {j : Nat} {a : α} {b : β}, as.Nodup → as[j]? = some a → bs[j]? = some b → (as.zip bs).lookup a = some b
  | [], _, _, _, _, _, h, _ => by simp at h
  | _ :: _, [], _, _, _, _, _, h => by simp at h
  | x :: as, y :: bs, 0, a, b, _, h1, h2 => by
    simp at h1 h2
    subst h1 h2
    simp
  | x :: as, y :: bs, j + 1, a, b, nd, h1, h2 => by
    rw [List.nodup_cons] at nd
    have h1' : as[j]? = some a := by simpa using h1
    have ne : (a == x) = false := by
      rw [beq_eq_false_iff_ne]
      intro e
      subst e
      exact nd.1 (List.mem_of_getElem? h1')
    rw [List.zip_cons_cons, List.lookup_cons, ne]
    exact lookup_zip nd.2 h1' (by simpa using h2)
theorem lookup_zip_none {α β : Type} [BEq α] [LawfulBEq α] : ∀ {as : List α} {bs : List β} {a : α}, a ∉ as → (as.zip bs).lookup a = none
  | [], _, _, _ => by simp
  | _ :: _, [], _, _ => by simp
  | x :: as, y :: bs, a, h => by
    have ne : (a == x) = false := by
      rw [beq_eq_false_iff_ne]
      intro e
      exact h (by rw [e]; exact List.mem_cons_self)
    rw [List.zip_cons_cons, List.lookup_cons, ne]
    exact lookup_zip_none fun z => h (List.mem_cons_of_mem _ z)
section
variable {X : Cx} {W : WX} {M : List Nat} {k : Nat} {f : Addr} {fd : FuncData} {ps : List Str} {io cs : List Nat} {spec : SemF} {ks : List (Option Nat)} {e : Expr} {es : List Expr} {qs : SemD} {x : Str} {p pos : Pos}
theorem call_run {K : PySem.W.Frag} {n0 : Nat} (hio : io.Nodup) (hk : okK ks io cs = true) (hn : ks.length = n0) {σ : L2.St} {H1 : Hp} {Qv : VK} {m : Nat} {ow1 : Ow} {env1 : Env} {Q : T → Env → Prop} {E : XQ} {vs : List V} {ds : List D} {args : List T} (s1 : StOk K H1 ow1 σ env1) (l1 : vs.length = ks.length)
    (hv : ∀ (j : Nat) (v : V) (d : D), vs[j]? = some v → ds[j]? = some d → (ks[j]? = some none → Rp K (Bs H1 ow1) v d) ∧ ∀ i, ks[j]? = some (some i) → σ[i]? = some (some v))
    (l2 : ds.length = ks.length) (ha : asm ks ds env1 = some args) (hs : spec args (fun t outs => Q t (putO cs outs env1)) (fun r outs => E r (putO cs outs env1)))
    (kk : ∀ v t H' ow' env', Stp cs m H1 ow1 H' ow' → StOk K H' ow' σ env' → Out cs env1 env' → Tq K H' ow' (.tm m) v t → Q t env' → Qv v H') (xx : Xk K W cs σ H1 m ow1 env1 E) : spQ K n0 io spec vs H1 Qv (fun cls d H' => W cls d σ H') := by
  unfold okK at hk
  simp only [Bool.and_eq_true, decide_eq_true_eq] at hk
  obtain ⟨⟨⟨nd, len⟩, hz⟩, hall⟩ := hk
  obtain ⟨a1, a2⟩ := asm_get ha
  have slot : ∀ {i p : Nat} {j : Nat}, cs[j]? = some i → io[j]? = some p → labIn io cs (.sl i) = .sl p := fun {i p j} e1 e2 => by
    simp only [labIn]
    rw [lookup_zip nd e1 e2]
  have back : ∀ {i p j : Nat} {old : Lab}, cs[j]? = some i → io[j]? = some p → labBack io cs m old (.sl p) = .sl i := fun {i p j old} e1 e2 => by
    simp only [labBack]
    rw [lookup_zip hio e2 e1]
  have kz : ∀ {j i p : Nat}, cs[j]? = some i → io[j]? = some p → ks[p]? = some (some i) := fun {j i p} e1 e2 => by
    have hm : (p, i) ∈ io.zip cs := List.mem_of_getElem? (i := j) (by rw [List.getElem?_zip_eq_some]; exact ⟨e2, e1⟩)
    exact of_decide_eq_true (List.all_eq_true.mp hz _ hm)
  have bsIn : Same (Bs H1 ow1) (Bs H1 fun a => labIn io cs (ow1 a)) := bs_lab fun a e1 => by
    show labIn io cs (ow1 a) = .base
    rw [e1]; rfl
  -- what is behind the call
  have after : ∀ {H2 : Hp} {owc : Ow}, Fs H1 (fun a => labIn io cs (ow1 a)) H2 owc → Stp cs m H1 ow1 H2 (fun a => labBack io cs m (ow1 a) (owc a)) ∧ Same (Bs H2 owc) (Bs H2 fun a => labBack io cs m (ow1 a) (owc a)) := fun {H2 owc} fs => by
    refine ⟨⟨fun a o e q => ?_, fs.tp⟩, bs_lab fun a e1 => ?_⟩
    · have key : (labIn io cs (ow1 a) = .fr ∨ labIn io cs (ow1 a) = .base) ∧ labBack io cs m (ow1 a) (labIn io cs (ow1 a)) = ow1 a := by
        cases eo : ow1 a with
        | fr => exact ⟨.inl rfl, rfl⟩
        | base => exact ⟨.inr rfl, rfl⟩
        | tm k => exact ⟨.inl rfl, rfl⟩
        | sl i =>
          rw [eo] at q
          have hi : i ∉ cs := q
          have : labIn io cs (.sl i) = .fr := by simp only [labIn]; rw [lookup_zip_none hi]
          rw [this]
          exact ⟨.inl rfl, rfl⟩
      obtain ⟨e1, e2⟩ := fs a o e key.1
      refine ⟨e1, ?_⟩
      show labBack io cs m (ow1 a) (owc a) = ow1 a
      rw [e2]
      exact key.2
    · show labBack io cs m (ow1 a) (owc a) = .base
      rw [e1]; rfl
  have state : ∀ {H2 : Hp} {owc : Ow} {outs : List T}, Fs H1 (fun a => labIn io cs (ow1 a)) H2 owc → outs.length = io.length → (∀ (j i : Nat) (u : T), io[j]? = some i → outs[j]? = some u → ∃ v, vs[i]? = some v ∧ Tq K H2 owc (.sl i) v u) →
      StOk K H2 (fun a => labBack io cs m (ow1 a) (owc a)) σ (putO cs outs env1) ∧ Out cs env1 (putO cs outs env1) := fun {H2 owc outs} fs lo ho => by
    obtain ⟨y, bsB⟩ := after fs
    have out : Out cs env1 (putO cs outs env1) := ⟨putO_len _ _ _, fun i hi => putO_out _ _ _ _ hi⟩
    refine ⟨s1.stp y out fun i t hi e => ?_, out⟩
    obtain ⟨j, ej, et⟩ := putO_in cs outs env1 i t nd (lo.trans len) hi e
    have hj : j < io.length := by have := (List.getElem?_eq_some_iff.mp et).1; omega
    have ep : io[j]? = some io[j] := by simp [hj]
    obtain ⟨v, ev, r⟩ := ho j io[j] t ep et
    have kp := kz ej ep
    have hp : io[j] < ds.length := by have := (List.getElem?_eq_some_iff.mp ev).1; omega
    refine ⟨v, (hv io[j] v ds[io[j]] ev (by simp [hp])).2 i kp, Car.tq ⟨bsB, fun a o _ eo => ⟨by assumption, ?_⟩⟩ r⟩
    show labBack io cs m (ow1 a) (owc a) = .sl i
    rw [eo]
    exact back ej ep
  refine ⟨by omega, fun a => labIn io cs (ow1 a), args, _, _, by omega, fun j t et => ?_, hs, fun v t H2 owc outs fs r lo ho z => ?_, fun r d H2 owc outs fs rz lo ho z => ?_⟩
  · have hj : j < vs.length := by have := (List.getElem?_eq_some_iff.mp et).1; omega
    have ev : vs[j]? = some vs[j] := by simp [hj]
    refine ⟨vs[j], ev, ?_⟩
    have hjd : j < ds.length := by omega
    have ed : ds[j]? = some ds[j] := by simp [hjd]
    rcases a2 j t et with ⟨d, ek, ed', rfl⟩ | ⟨i, ek, ee⟩
    · exact Tq.fz_.mpr (((hv j _ d ev ed').1 ek).mono bsIn)
    · have e1 := (hv j _ _ ev ed).2 i ek
      obtain ⟨w, e2, r⟩ := s1.at_ i t ee
      rw [e1] at e2
      cases e2
      have hall' := List.all_eq_true.mp hall j (List.mem_range.mpr (by omega))
      rw [ek] at hall'
      simp only [Bool.and_eq_true, decide_eq_true_eq] at hall'
      -- the place of i among cs is that of j among io
      obtain ⟨c, hc⟩ := List.getElem?_of_mem hall'.1
      have hcs : c < cs.length := by have := (List.getElem?_eq_some_iff.mp hc).1; omega
      have ec : cs[c]? = some cs[c] := by simp [hcs]
      have kp := kz ec hc
      rw [ek] at kp
      have ei : i = cs[c] := Option.some.inj (Option.some.inj kp)
      exact Car.tq ⟨bsIn, fun a o h eo => ⟨h, by
        show labIn io cs (ow1 a) = .sl j
        rw [eo, ei]
        exact slot ec hc⟩⟩ r
  · obtain ⟨y, bsB⟩ := after fs
    obtain ⟨s2, o2⟩ := state fs lo ho
    exact kk v t H2 _ _ y s2 o2 (Car.tq ⟨bsB, fun a o h eo => ⟨h, by
      show labBack io cs m (ow1 a) (owc a) = .tm m
      rw [eo]
      rfl⟩⟩ r) z
  · obtain ⟨y, bsB⟩ := after fs
    obtain ⟨s2, o2⟩ := state fs lo ho
    refine xx r d H2 _ _ y s2 o2 ?_ z
    cases d with
    | none => exact rz
    | some d =>
      obtain ⟨ws, e1, e2, e3⟩ := rz
      exact ⟨ws, bsB _ _ e1, e2, e3.mono bsB⟩
theorem q_call (F : QFn X.prog X.w X.K X.mg X.base k f fd ps io spec) (tk : L2.Takes X W) (hr : Room k X.A) (hG : X.A.guards = some []) (hg : Gl X x) (hm : X.mg x = some (.ref f)) (hk : PySem.W.keepIn X.K (.ref f) = true) (hb : Binds X.K fd ps [])
    (ha : QA X W M ks (e :: es) qs) (cs : List Nat) (hio : io.Nodup := by decide) (hK : okK ks io cs = true := by decide) (hn : ks.length = ps.length := by rfl) (hdb : (x == ("__debug__" : Str)) = false := by decide) (he : starEach (e :: es) X.env = (false, eval e X.env) :: starEach es X.env := by rfl)
    (hpl : (backTo pos (starEach es X.env)).any (·.1) = false := by rfl) : QE X W (M ++ cs) (.Call (.Name x p) (e :: es) [] pos) (sCall spec ks cs qs) :=
  ⟨PE_imp (pe_callG F hr hG hg hm hk hb tk ha.run hdb he hpl) fun σ H Qv ⟨n, ow, env, Q, E, st, hq, kk, xx⟩ => ⟨n, ow, env, _, E, st, hq, fun vs ds H1 ow1 env1 y1 s1 o1 l1 l2 hv z => by
    split at z
    · rename_i args ea
      exact call_run hio hK hn s1 l1 hv l2 ea z (fun v t H2 ow2 env2 y2 s2 o2 r2 z2 => kk v t H2 ow2 env2 (y1.trans y2 subl subr (Nat.le_refl _) (Nat.le_refl _)) s2 (o1.trans o2 subl subr) r2 z2) (xx.step y1 o1 subl subr (Nat.le_refl _) (Nat.le_refl _))
    · exact z.elim, fun r d H' ow' env' y s' o => xx r d H' ow' env' (y.mono subl (Nat.le_refl _)) s' (o.mono subl)⟩⟩
end
end QV

set_option Elab.async false
set_option linter.all false
set_option maxRecDepth 100000
set_option maxHeartbeats 2000000
namespace QV
open PySem L2

def wipeE (env : Env) : List Nat → Env
  | [] => env
  | v :: vs => (wipeE env vs).set v none
def rstE (e0 : Env) : List Nat → Env → Env
  | [], e => e
  | v :: vs, e => (rstE e0 vs e).set v ((e0[v]?).getD none)
theorem wipeE_len (env : Env) : ∀ vs, (wipeE env vs).length = env.length
  | [] => rfl
  | v :: vs => by unfold wipeE; rw [List.length_set, wipeE_len env vs]
theorem rstE_len (e0 : Env) : ∀ vs (e : Env), (rstE e0 vs e).length = e.length
  | [], _ => rfl
  | v :: vs, e => by unfold rstE; rw [List.length_set, rstE_len e0 vs e]
theorem wipeE_some {env : Env} {i : Nat} {t : T} : ∀ {vs : List Nat}, (wipeE env vs)[i]? = some (some t) → env[i]? = some (some t) ∧ i ∉ vs
  | [], h => ⟨h, by simp⟩
  | v :: vs, h => by
    unfold wipeE at h
    by_cases hi : v = i
    · subst hi
      by_cases hv : v < (wipeE env vs).length
      · rw [List.getElem?_set_self hv] at h; cases h
      · rw [List.getElem?_eq_none (by simpa using hv)] at h; cases h
    · rw [List.getElem?_set_ne hi] at h
      obtain ⟨h1, h2⟩ := wipeE_some h
      exact ⟨h1, by simp only [List.mem_cons, not_or]; exact ⟨fun e => hi e.symm, h2⟩⟩
theorem rstE_out {e0 : Env} {i : Nat} : ∀ {vs : List Nat} {e : Env}, i ∉ vs → (rstE e0 vs e)[i]? = e[i]?
  | [], _, _ => rfl
  | v :: vs, e, h => by
    unfold rstE
    rw [List.getElem?_set_ne fun z => h (by rw [z]; exact List.mem_cons_self)]
    exact rstE_out fun z => h (List.mem_cons_of_mem _ z)
theorem rstE_in {e0 : Env} {i : Nat} {t : T} : ∀ {vs : List Nat} {e : Env}, i ∈ vs → (rstE e0 vs e)[i]? = some (some t) → e0[i]? = some (some t)
  | [], _, h, _ => by simp at h
  | v :: vs, e, hi, h => by
    unfold rstE at h
    by_cases hv : v = i
    · subst hv
      by_cases hl : v < (rstE e0 vs e).length
      · rw [List.getElem?_set_self hl] at h
        cases e1 : e0[v]? with
        | none => rw [e1] at h; cases h
        | some u => rw [e1] at h; exact h
      · rw [List.getElem?_eq_none (by simpa using hl)] at h; cases h
    · rw [List.getElem?_set_ne hv] at h
      exact rstE_in ((List.mem_cons.mp hi).resolve_left fun z => hv z.symm) h
theorem wipeE_out {env : Env} {i : Nat} : ∀ {vs : List Nat}, i ∉ vs → (wipeE env vs)[i]? = env[i]?
  | [], _ => rfl
  | v :: vs, h => by
    unfold wipeE
    rw [List.getElem?_set_ne fun z => h (by rw [z]; exact List.mem_cons_self)]
    exact wipeE_out fun z => h (List.mem_cons_of_mem _ z)
theorem wipe_in {σ : L2.St} {i : Nat} : ∀ {vs : List Nat}, i ∈ vs → i < σ.length → (wipe σ vs)[i]? = some none
  | [], h, _ => by simp at h
  | v :: vs, h, hl => by
    unfold wipe
    by_cases hv : v = i
    · subst hv
      exact List.getElem?_set_self (by rw [wipe_length]; exact hl)
    · rw [List.getElem?_set_ne hv]
      exact wipe_in ((List.mem_cons.mp h).resolve_left fun z => hv z.symm) hl
theorem wipe_tch {SS vs : List Nat} {σ σ2 : L2.St} (h : Tch SS (wipe σ vs) σ2) (hs : ∀ i ∈ SS, i ∈ vs) : wipe σ2 vs = wipe σ vs := by
  apply List.ext_getElem?
  intro i
  have l : σ2.length = σ.length := h.len.trans (wipe_length σ vs)
  by_cases hi : i ∈ vs
  · by_cases hl : i < σ.length
    · rw [wipe_in hi hl, wipe_in hi (by omega)]
    · rw [List.getElem?_eq_none (by rw [wipe_length]; omega), List.getElem?_eq_none (by rw [wipe_length]; omega)]
  · rw [wipe_out hi, h.eq i fun z => hi (hs i z)]
section
variable {K : PySem.W.Frag} {H H' : Hp} {ow ow' : Ow} {σ σ2 : L2.St} {env env' : Env} {vs SS : List Nat}
theorem StOk.wipe (s : StOk K H ow σ env) : StOk K H ow (L2.wipe σ vs) (wipeE env vs) := ⟨by rw [wipeE_len, wipe_length]; exact s.len, fun i t e => by
  obtain ⟨e1, hi⟩ := wipeE_some e
  obtain ⟨v, e2, r⟩ := s.at_ i t e1
  exact ⟨v, by rw [wipe_out hi]; exact e2, r⟩⟩
theorem StOk.rst (s : StOk K H ow σ env) (s2 : StOk K H' ow' σ2 env') (tc : Tch SS (L2.wipe σ vs) σ2) (hs : ∀ i ∈ SS, i ∈ vs) (car : ∀ i ∈ vs, Car H H' ow ow' (.sl i) (.sl i)) : StOk K H' ow' σ (rstE env vs env') := ⟨by rw [rstE_len, s2.len, tc.len, wipe_length], fun i t e => by
  by_cases hi : i ∈ vs
  · obtain ⟨v, e1, r⟩ := s.at_ i t (rstE_in hi e)
    exact ⟨v, e1, (car i hi).tq r⟩
  · rw [rstE_out hi] at e
    obtain ⟨v, e1, r⟩ := s2.at_ i t e
    rw [tc.eq i fun z => hi (hs i z), wipe_out hi] at e1
    exact ⟨v, e1, r⟩⟩
end
abbrev noX : XQ := fun _ _ => False
abbrev W0 : WX := fun _ _ _ _ => False
theorem xk0 {K : PySem.W.Frag} {M : List Nat} {σ : L2.St} {H : Hp} {n : Nat} {ow : Ow} {env : Env} {W : WX} : Xk K W M σ H n ow env noX := fun _ _ _ _ _ _ _ _ _ z => z.elim
structure QTs (X : Cx) (W : WX) (M : List Nat) (ifs : List Expr) (q : SemT) : Prop where
  run : PTs X ifs (tT X.K W M q)
def sYes : SemT := fun env Q _ => Q true env
theorem PTs_imp {X : Cx} {e : List Expr} {t t' : TT} (h : PTs X e t) (f : ∀ σ H Q, t' σ H Q → t σ H Q) : PTs X e t' := ⟨fun pins s σ H Q I q => h.run pins s σ H Q I (f _ _ _ q)⟩
theorem ts_nil {X : Cx} {W : WX} : QTs X W [] [] sYes := ⟨PTs_imp pts_nil fun σ H Qv ⟨n, ow, env, Q, E, s, hq, k, x⟩ => k true H ow env Stp.refl s Out.refl hq⟩
theorem ts_one {X : Cx} {W : WX} {M : List Nat} {e : Expr} {q : SemT} (h : QT X W M e q) : QTs X W M [e] q := ⟨pts_one h.run⟩
inductive LcG (g : SemG) (t : SemT) (q : SemE) (vs : List Nat) (Q : T → Env → Prop) (ds : List D) (env1 : Env) : Prop
  | mk (h : ∃ I : Nat → List D → Env → Prop, I 0 [] env1 ∧
  (∀ j d acc env', ds[j]? = some d → I j acc env' → g d (wipeE env' vs) fun env2 => t env2 (fun b env3 => (b = true → q env3 (fun w env4 => match w with
    | .fz e => I (j + 1) (acc ++ [e]) (rstE env' vs env4)
    | _ => False) noX) ∧ (b = false → I (j + 1) acc (rstE env' vs env3))) noX) ∧ ∀ acc env', I ds.length acc env' → Q (.ow .lst acc) env')
  | no (h : False)
theorem LcG.ex {g : SemG} {t : SemT} {q : SemE} {vs : List Nat} {Q : T → Env → Prop} {ds : List D} {env1 : Env} : LcG g t q vs Q ds env1 → ∃ I : Nat → List D → Env → Prop, I 0 [] env1 ∧
  (∀ j d acc env', ds[j]? = some d → I j acc env' → g d (wipeE env' vs) fun env2 => t env2 (fun b env3 => (b = true → q env3 (fun w env4 => match w with
    | .fz e => I (j + 1) (acc ++ [e]) (rstE env' vs env4)
    | _ => False) noX) ∧ (b = false → I (j + 1) acc (rstE env' vs env3))) noX) ∧ ∀ acc env', I ds.length acc env' → Q (.ow .lst acc) env'
  | .mk h => h
  | .no h => h.elim
def sLc (qi : SemI) (g : SemG) (t : SemT) (q : SemE) (vs : List Nat) : SemE := fun env Q E => qi env (fun ds env1 => LcG g t q vs Q ds env1) E
theorem LcG.fr {g : SemG} {t : SemT} {q : SemE} {vs : List Nat} {Q : T → Env → Prop} {ds : List D} {env : Env} (ms : List Nat) (I : Nat → List D → List (Option T) → Prop) (h0 : ∃ us, env = putE env ms us ∧ I 0 [] us)
    (hs : ∀ j d acc us, ds[j]? = some d → I j acc us → g d (wipeE (putE env ms us) vs) fun env2 => t env2 (fun b env3 => (b = true → q env3 (fun w env4 => match w with
    | .fz e => ∃ us', rstE (putE env ms us) vs env4 = putE env ms us' ∧ I (j + 1) (acc ++ [e]) us'
    | _ => False) noX) ∧ (b = false → ∃ us', rstE (putE env ms us) vs env3 = putE env ms us' ∧ I (j + 1) acc us')) noX) (he : ∀ acc us, I ds.length acc us → Q (.ow .lst acc) (putE env ms us)) : LcG g t q vs Q ds env :=
  .mk ⟨fun j acc e => ∃ us, e = putE env ms us ∧ I j acc us, h0, fun j d acc env' hd ⟨us, e, i⟩ => by subst e; exact hs j d acc us hd i, fun acc env' ⟨us, e, i⟩ => by subst e; exact he acc us i⟩
theorem LcG.flat {g : SemG} {t : SemT} {q : SemE} {vs : List Nat} {Q : T → Env → Prop} {ds : List D} {env : Env} (f : D → Option D)
    (hs : ∀ j d, ds[j]? = some d → g d (wipeE env vs) fun env2 => t env2 (fun b env3 => (b = true → q env3 (fun w env4 => match w with
    | .fz e => (ds.take j).filterMap f ++ [e] = (ds.take (j + 1)).filterMap f ∧ rstE env vs env4 = env
    | _ => False) noX) ∧ (b = false → (ds.take j).filterMap f = (ds.take (j + 1)).filterMap f ∧ rstE env vs env3 = env)) noX) (he : Q (.ow .lst (ds.filterMap f)) env) : LcG g t q vs Q ds env :=
  .mk ⟨fun j acc e => acc = (ds.take j).filterMap f ∧ e = env, ⟨rfl, rfl⟩, fun j d acc env' hd ⟨ha, he⟩ => by subst ha he; exact hs j d hd, fun acc env' ⟨ha, he'⟩ => by subst ha he'; rwa [List.take_of_length_le (Nat.le_refl _)]⟩
theorem nf_map {a : T} {l : List T} : List.map some (a :: l) = some a :: List.map some l := rfl
theorem nf_map0 : List.map some ([] : List T) = [] := rfl
theorem nf_app {a : Option T} {l m : List (Option T)} : (a :: l) ++ m = a :: (l ++ m) := rfl
theorem nf_app0 {m : List (Option T)} : [] ++ m = m := rfl
theorem nf_set0 {a b : Option T} {l : List (Option T)} : (a :: l).set 0 b = b :: l := rfl
theorem nf_setS {a b : Option T} {l : List (Option T)} {n : Nat} : (a :: l).set (n + 1) b = a :: l.set n b := rfl
theorem putE_nil {env : Env} : putE env [] [] = env := rfl
theorem putE_cons {env : Env} {i : Nat} {is : List Nat} {v : Option T} {vs : List (Option T)} : putE env (i :: is) (v :: vs) = putE (env.set i v) is vs := rfl
theorem putO_nil {env : Env} : putO [] [] env = env := rfl
theorem putO_cons {env : Env} {i : Nat} {is : List Nat} {v : T} {vs : List T} : putO (i :: is) (v :: vs) env = putO is vs (env.set i (some v)) := rfl
theorem over_yes {α : Type} {l : List α} {p : α → Bool} {f : α → D} {j : Nat} {a : α} (h : l[j]? = some a) (hp : p a = true) : ((l.take j).filter p).map f ++ [f a] = ((l.take (j + 1)).filter p).map f := by
  rw [List.take_add_one, h, List.filter_append, List.map_append]; simp [hp]
theorem over_no {α : Type} {l : List α} {p : α → Bool} {f : α → D} {j : Nat} {a : α} (h : l[j]? = some a) (hp : p a = false) : ((l.take j).filter p).map f = ((l.take (j + 1)).filter p).map f := by
  rw [List.take_add_one, h, List.filter_append, List.map_append]; simp [hp]
theorem map_at {α : Type} {l : List α} {g0 : α → D} {j : Nat} {d : D} (h : (l.map g0)[j]? = some d) : ∃ a, l[j]? = some a ∧ d = g0 a := by
  rw [List.getElem?_map] at h
  cases e : l[j]? with
  | none => rw [e] at h; cases h
  | some a => rw [e] at h; cases h; exact ⟨a, rfl, rfl⟩
theorem LcG.over {g : SemG} {t : SemT} {q : SemE} {vs : List Nat} {Q : T → Env → Prop} {ds : List D} {env : Env} {α : Type} (l : List α) (g0 : α → D) (hds : ds = l.map g0) (p : α → Bool) (f : α → D)
    (hs : ∀ j a, l[j]? = some a → g (g0 a) (wipeE env vs) fun env2 => t env2 (fun b env3 => (b = true → q env3 (fun w env4 => match w with
    | .fz e => ((l.take j).filter p).map f ++ [e] = ((l.take (j + 1)).filter p).map f ∧ rstE env vs env4 = env
    | _ => False) noX) ∧ (b = false → ((l.take j).filter p).map f = ((l.take (j + 1)).filter p).map f ∧ rstE env vs env3 = env)) noX) (he : Q (.ow .lst ((l.filter p).map f)) env) : LcG g t q vs Q ds env :=
  .mk ⟨fun j acc e => acc = ((l.take j).filter p).map f ∧ e = env, ⟨rfl, rfl⟩, fun j d acc env' hd ⟨ha, he⟩ => by
    subst ha he hds
    obtain ⟨a, h1, rfl⟩ := map_at hd
    exact hs j a h1, fun acc env' ⟨ha, he'⟩ => by
    subst ha he' hds
    rwa [List.length_map, List.take_of_length_le (Nat.le_refl _)]⟩
theorem all_one {α : Type} {l : List α} {f : α → D} {j : Nat} {a : α} (h : l[j]? = some a) : (l.take j).map f ++ [f a] = (l.take (j + 1)).map f := by
  rw [List.take_add_one, h, List.map_append]; rfl
theorem LcG.each {g : SemG} {t : SemT} {q : SemE} {vs : List Nat} {Q : T → Env → Prop} {ds : List D} {env : Env} {α : Type} (l : List α) (g0 : α → D) (hds : ds = l.map g0) (f : α → D)
    (hs : ∀ j a, l[j]? = some a → g (g0 a) (wipeE env vs) fun env2 => t env2 (fun b env3 => (b = true → q env3 (fun w env4 => match w with
    | .fz e => (l.take j).map f ++ [e] = (l.take (j + 1)).map f ∧ rstE env vs env4 = env
    | _ => False) noX) ∧ (b = false → (l.take j).map f = (l.take (j + 1)).map f ∧ rstE env vs env3 = env)) noX) (he : Q (.ow .lst (l.map f)) env) : LcG g t q vs Q ds env :=
  .mk ⟨fun j acc e => acc = (l.take j).map f ∧ e = env, ⟨rfl, rfl⟩, fun j d acc env' hd ⟨ha, he⟩ => by
    subst ha he hds
    obtain ⟨a, h1, rfl⟩ := map_at hd
    exact hs j a h1, fun acc env' ⟨ha, he'⟩ => by
    subst ha he' hds
    rwa [List.length_map, List.take_of_length_le (Nat.le_refl _)]⟩
theorem ForG.over {g : SemG} {body : SemS} {D : EndsQ} {ds : List QV.D} {env : Env} {α : Type} (l : List α) (g0 : α → QV.D) (hds : ds = l.map g0) (ms : List Nat) (I : Nat → List (Option T) → Prop) (h0 : ∃ vs, env = putE env ms vs ∧ I 0 vs)
    (hs : ∀ j a vs, l[j]? = some a → I j vs → g (g0 a) (putE env ms vs) fun env2 => body { D with nx := fun e => ∃ us, e = putE env ms us ∧ I (j + 1) us, ct := fun e => ∃ us, e = putE env ms us ∧ I (j + 1) us, bk := D.nx } env2) (he : ∀ vs, I l.length vs → D.nx (putE env ms vs)) : ForG g body D ds env :=
  .fr ms I h0 (fun j d vs hd i => by
    subst hds
    obtain ⟨a, h1, rfl⟩ := map_at hd
    exact hs j a vs h1 i) fun vs i => he vs (by subst hds; rwa [List.length_map] at i)
theorem ForG.rng {g : SemG} {body : SemS} {D : EndsQ} {lo : Int} {n : Nat} {env : Env} (ms : List Nat) (I : Nat → List (Option T) → Prop) (h0 : ∃ vs, env = putE env ms vs ∧ I 0 vs)
    (hs : ∀ j vs, j < n → I j vs → g (.int (lo + (j : Nat))) (putE env ms vs) fun env2 => body { D with nx := fun e => ∃ us, e = putE env ms us ∧ I (j + 1) us, ct := fun e => ∃ us, e = putE env ms us ∧ I (j + 1) us, bk := D.nx } env2) (he : ∀ vs, I n vs → D.nx (putE env ms vs)) : ForG g body D (rngD lo n) env :=
  .fr ms I h0 (fun j d vs hd i => by
    obtain ⟨h1, rfl⟩ := rngD_get hd
    exact hs j vs h1 i) fun vs i => he vs (by rwa [rngD_len] at i)
theorem perm_eraseIdx {α : Type} : ∀ (l : List α) (i : Nat) (h : i < l.length), (l[i] :: l.eraseIdx i).Perm l
  | [], i, h => by simp at h
  | a :: l, 0, h => by simp
  | a :: l, i + 1, h => by
    have := perm_eraseIdx l i (by simpa using h)
    simp only [List.getElem_cons_succ, List.eraseIdx_cons_succ]
    exact (List.Perm.swap a _ _).trans (List.Perm.cons a this)
theorem map_erase {α β : Type} (f : α → β) : ∀ (l : List α) (i : Nat), (l.map f).eraseIdx i = (l.eraseIdx i).map f
  | [], _ => rfl
  | a :: l, 0 => rfl
  | a :: l, i + 1 => by simp [map_erase f l i]
theorem mem3 {Mi Mt Me : List Nat} : (∀ i ∈ Mi, i ∈ Mi ++ (Mt ++ Me)) ∧ (∀ i ∈ Mt, i ∈ Mi ++ (Mt ++ Me)) ∧ ∀ i ∈ Me, i ∈ Mi ++ (Mt ++ Me) := ⟨subl, fun i h => subr i (subl i h), fun i h => subr i (subr i h)⟩
theorem lc_run {K : PySem.W.Frag} {W : WX} {Mi Mt Me SS vs : List Nat} {qi : SemI} {g : SemG} {t : SemT} {q : SemE} (hs : ∀ i ∈ SS, i ∈ vs) (hv : ∀ i ∈ vs, i ∉ Mt ++ Me) {σ : L2.St} {H : Hp} {Qv : VK} (h : tQ K W (Mi ++ (Mt ++ Me)) (sLc qi g t q vs) σ H Qv) :
    tLc (tI K W Mi qi) (tG K SS g) (tT K W0 Mt t) (tQ K W0 Me q) vs σ H Qv := by
  obtain ⟨n, ow, env, Q, E, s, hq, k, x⟩ := h
  refine ⟨n, ow, env, _, E, s, hq, fun J ds H1 ow1 env1 y1 s1 o1 J1 hI => ?_, fun r d H' ow' env' y s' o => x r d H' ow' env' (y.mono subl (Nat.le_refl _)) s' (o.mono subl)⟩
  obtain ⟨I, i0, it, ie⟩ := hI.ex
  intro D hD
  have key : ∀ {H' : Hp} {ow' : Ow}, Stp (Mi ++ (Mt ++ Me)) n H1 ow1 H' ow' → Stp (Mi ++ (Mt ++ Me)) n H ow H' ow' := fun y => y1.trans y subl (fun _ h => h) (Nat.le_refl _) (Nat.le_refl _)
  refine ⟨fun j m H' => m = ds.length - j ∧ j ≤ ds.length ∧ ∃ ow' env' acc us, Stp (Mi ++ (Mt ++ Me)) n H1 ow1 H' ow' ∧ StOk K H' ow' σ env' ∧ Out (Mi ++ (Mt ++ Me)) env1 env' ∧ H' D = some (.lst us) ∧ ow' D = .tm n ∧ Rps K (Bs H' ow') us acc ∧ us.length ≤ j ∧ I j acc env',
    ⟨ds.length, by simp, Nat.zero_le _, Ow.put ow1 D (.tm n), env1, [], [], Stp.new hD, s1.stp0 (n := 0) (Stp.new hD), Out.refl, upd_same, put_same, .nil, Nat.le_refl _, i0⟩, ?_⟩
  rintro j m H' ⟨rfl, hj, ow', env', acc, us, y', s', o', hDl, hDo, hr, hl, ij⟩
  by_cases hlt : j < ds.length
  · have hd : ds[j]? = some ds[j] := by simp [hlt]
    refine .inr ⟨J1.go j _ H' ow' y'.fs hd, fun H5 => ∃ ow5 env5 acc5 us5, Stp (Mi ++ (Mt ++ Me)) n H1 ow1 H5 ow5 ∧ StOk K H5 ow5 σ env5 ∧ Out (Mi ++ (Mt ++ Me)) env1 env5 ∧ H5 D = some (.lst us5) ∧ ow5 D = .tm n ∧ Rps K (Bs H5 ow5) us5 acc5 ∧ us5.length ≤ j + 1 ∧ I (j + 1) acc5 env5,
      fun H5 ⟨ow5, env5, acc5, us5, q5⟩ => ⟨ds.length - (j + 1), by omega, rfl, hlt, ow5, env5, acc5, us5, q5⟩, fun xv H2 yl => ?_⟩
    obtain ⟨ow2, ex, rx⟩ := J1.yld j _ H' ow' xv H2 y'.fs hd yl
    have y2 : Stp (Mi ++ (Mt ++ Me)) n H' ow' H2 ow2 := ex.stp
    have s2 : StOk K H2 ow2 σ env' := s'.stp0 (n := 0) ex.stp
    refine ⟨ow2, wipeE env' vs, _, _, s2.wipe, rx, it j _ acc env' hd ij, fun σ3 env3 tc oT s3 z3 => ?_⟩
    refine ⟨wipe_tch tc hs, n + 1, ow2, env3, _, noX, s3, z3, fun b H3 ow3 env4 y3 s4 o4 z4 => ?_, xk0⟩
    have hD2 := (ex D _ hDl)
    have hD3 := y3 D _ hD2.1 (by rw [hD2.2, hDo]; exact Nat.lt_succ_self n)
    have hDo3 : ow3 D = .tm n := by rw [hD3.2, hD2.2, hDo]
    have same3 : Same (Bs H' ow') (Bs H3 ow3) := fun a o e => y3.bs a o (y2.bs a o e)
    have y23 : Stp (Mi ++ (Mt ++ Me)) n H' ow' H3 ow3 := y2.trans y3 (fun _ h => h) mem3.2.1 (Nat.le_refl _) (Nat.le_succ _)
    have outs : ∀ {e5 : Env} {H5 : Hp} {ow5 : Ow}, Out (Mt ++ Me) env3 e5 → StOk K H5 ow5 σ3 e5 → Out (Mi ++ (Mt ++ Me)) env1 (rstE env' vs e5) := fun {e5 H5 ow5} oo ss => by
      refine ⟨?_, fun i hi => ?_⟩
      · rw [rstE_len, ss.len, tc.len, wipe_length, ← s'.len, o'.len]
      · rw [← o'.eq i hi]
        by_cases hiv : i ∈ vs
        · by_cases hil : i < env'.length
          · have : ∀ {vs : List Nat}, i ∈ vs → (rstE env' vs e5)[i]? = some ((env'[i]?).getD none) := fun {vs} hm => by
              induction vs with
              | nil => simp at hm
              | cons v vs ih =>
                unfold rstE
                by_cases hv2 : v = i
                · subst hv2
                  exact List.getElem?_set_self (by rw [rstE_len, ss.len, tc.len, wipe_length, ← s'.len]; exact hil)
                · rw [List.getElem?_set_ne hv2]
                  exact ih ((List.mem_cons.mp hm).resolve_left fun z => hv2 z.symm)
            rw [this hiv]
            have e : env'[i]? = some env'[i] := by simp [hil]
            rw [e]
            rfl
          · rw [List.getElem?_eq_none (by rw [rstE_len, ss.len, tc.len, wipe_length, ← s'.len]; omega), List.getElem?_eq_none (by omega)]
        · rw [rstE_out hiv, oo.eq i fun z => hi (subr i z)]
          rw [oT.eq i fun z => hiv (hs i z)]
          exact wipeE_out hiv
    have carV : ∀ {H5 : Hp} {ow5 : Ow}, Stp (Mt ++ Me) (n + 1) H2 ow2 H5 ow5 → ∀ i ∈ vs, Car H2 H5 ow2 ow5 (.sl i) (.sl i) := fun {H5 ow5} yy i hi => yy.car (l := .sl i) (hv i hi)
    cases b with
    | false =>
      refine iteF ?_
      have y3' : Stp (Mt ++ Me) (n + 1) H2 ow2 H3 ow3 := y3.mono subl (Nat.le_refl _)
      exact ⟨ow3, _, acc, us, y'.trans y23 (fun _ h => h) (fun _ h => h) (Nat.le_refl _) (Nat.le_refl _), s2.rst s4 tc hs (carV y3'), outs (o4.mono subl) s4, hD3.1, hDo3, hr.mono same3, Nat.le_succ_of_le hl, z4.2 rfl⟩
    | true =>
      refine iteT ?_
      refine ⟨n + 1, ow3, env4, _, noX, s4, z4.1 rfl, fun v w H4 ow4 env5 y4 s5 o5 r4 z5 => ?_, xk0⟩
      split at z5
      · rename_i e
        have rv := Tq.fz_.mp r4
        have hD4 := y4 D _ hD3.1 (by rw [hDo3]; exact Nat.lt_succ_self n)
        have hDo4 : ow4 D = .tm n := by rw [hD4.2, hDo3]
        have same4 : Same (Bs H' ow') (Bs H4 ow4) := fun a o e => y4.bs a o (same3 a o e)
        have yu : Stp (Mt ++ Me) n H4 ow4 (upd H4 D (.lst (us ++ [v]))) ow4 := ⟨fun a o ea pa => by
          have ne : a ≠ D := fun z => by
            rw [z, hDo4] at pa
            exact absurd pa (Nat.lt_irrefl n)
          exact ⟨by rw [upd_ne ne]; exact ea, rfl⟩, fun a ws ea => by
          have ne : a ≠ D := fun z => by rw [z, hD4.1] at ea; cases ea
          rw [upd_ne ne]; exact ea⟩
        have y34 : Stp (Mt ++ Me) (n + 1) H2 ow2 H4 ow4 := y3.trans y4 subl subr (Nat.le_refl _) (Nat.le_refl _)
        have y25 : Stp (Mt ++ Me) n H2 ow2 (upd H4 D (.lst (us ++ [v]))) ow4 := y34.trans yu (fun _ h => h) (fun _ h => h) (Nat.le_succ _) (Nat.le_refl _)
        have s5u : StOk K (upd H4 D (.lst (us ++ [v]))) ow4 σ3 env5 := ⟨s5.len, fun i t e => by
          obtain ⟨w, e1, r⟩ := s5.at_ i t e
          refine ⟨w, e1, Car.tq ⟨yu.bs, fun a o ea eo => ?_⟩ r⟩
          have ne : a ≠ D := fun z => by
            rw [z, hDo4] at eo
            cases eo
          exact ⟨by rw [upd_ne ne]; exact ea, eo⟩⟩
        have carU : ∀ i ∈ vs, Car H2 (upd H4 D (.lst (us ++ [v]))) ow2 ow4 (.sl i) (.sl i) := fun i hi => ⟨y25.bs, fun a o ea eo => by
          obtain ⟨e1, e2⟩ := y34 a o ea (by rw [eo]; exact hv i hi)
          have ne : a ≠ D := fun z => by
            rw [z, hDo4] at e2
            rw [z] at eo
            rw [eo] at e2
            cases e2
          exact ⟨by rw [upd_ne ne]; exact e1, e2.trans eo⟩⟩
        have yall : Stp (Mi ++ (Mt ++ Me)) n H1 ow1 (upd H4 D (.lst (us ++ [v]))) ow4 := (y'.trans y2 (fun _ h => h) (fun _ h => h) (Nat.le_refl _) (Nat.le_refl _)).trans y25 (fun _ h => h) subr (Nat.le_refl _) (Nat.le_refl _)
        refine ⟨us, hD4.1, Nat.lt_of_le_of_lt hl (Nat.lt_of_lt_of_le hlt J1.sz), ow4, _, acc ++ [e], us ++ [v], yall, s2.rst s5u tc hs carU, outs (o4.trans o5 subl subr) s5, upd_same, hDo4, ?_, by rw [List.length_append]; simpa using hl, z5⟩
        exact (hr.mono fun a o e => yu.bs a o (same4 a o e)).app (.cons (rv.mono yu.bs) .nil)
      · exact z5.elim
  · have e : j = ds.length := by omega
    subst e
    exact .inl ⟨J1.stop H' ow' y'.fs, k (.ref D) (.ow .lst acc) H' ow' env' (key y') s' (o1.trans o' subl (fun _ h => h)) ⟨_, .ow (dx := D) ⟨hDl, Nat.le_trans hl J1.sz, trivial⟩ (fun b fb => by
      have eb : b = D := fb
      rw [eb]; exact hDo) hr⟩ (ie acc env' ij)⟩
end QV

set_option Elab.async false
set_option linter.all false
set_option maxRecDepth 100000
set_option maxHeartbeats 2000000
namespace QV
open PySem L2

section
variable {X : Cx} {W : WX} {Mi Mt Me M IO SS : List Nat} {elt tg iter e : Expr} {ifs : List Expr} {scope : Scope} {own : List (Str × Nat)} {pos spos py : Pos} {qi : SemI} {g : SemG} {t : SemT} {q : SemE} {y : Str} {i : Nat}
theorem q_lc (hc : X.calm = true) (hN : X.N.Nodup) (hi : QI X W Mi tg iter qi) (ok : BlkOk X.N X.env.scope scope own)
    (hg : ∀ (s : Shared) (H : Hp) (C : Addr) (cl : List (Str × Addr)) (fp : List Addr), QG (X.blk s H scope (compEnvC scope cl C X.env) fp) SS tg g) (ht : ∀ (s : Shared) (H : Hp) (C : Addr) (cl : List (Str × Addr)) (fp : List Addr), QTs (X.blk s H scope (compEnvC scope cl C X.env) fp) W0 Mt ifs t)
    (he : ∀ (s : Shared) (H : Hp) (C : Addr) (cl : List (Str × Addr)) (fp : List Addr), QE (X.blk s H scope (compEnvC scope cl C X.env) fp) W0 Me elt q) (hs : ∀ i ∈ SS, i ∈ own.map (·.2) := by decide) (hv : ∀ i ∈ own.map (·.2), i ∉ Mt ++ Me := by decide)
    (hf : ∀ x, foldedSetIterable iter X.env x = pure x := by intro _; rfl) : QE X W (Mi ++ (Mt ++ Me)) (.ListComp elt [⟨tg, iter, ifs, 0⟩] scope pos) (sLc qi g t q (own.map (·.2))) :=
  ⟨PE_imp (pe_lc hc hN hi.run ok (fun s H C cl fp => (hg s H C cl fp).run) (fun s H C cl fp => (ht s H C cl fp).run) (fun s H C cl fp => (he s H C cl fp).run) hf) fun _ _ _ h => lc_run hs hv h⟩
theorem set_run {K : PySem.W.Frag} {te : TE} {D : Ends} {σ : L2.St} {H : Hp} (hio : i ∉ IO) (h : tS K W IO (sSet i q) D σ H) (f : ∀ Qv, tQ K W M q σ H Qv → te σ H Qv) : tAsg te (gName i) D σ H := by
  obtain ⟨ow, env, De, s, hq, k⟩ := h
  exact f _ ⟨0, ow, env, _, De.ex, s, hq, fun v t H' ow' env' y s' _ r z =>
    have ⟨y2, s2⟩ := into_slot s' r
    k.nx _ _ _ _ (y.fs.trans y2.fs) (ios_set hio) s2 z, k.ex.xk⟩
theorem fz_run {K : PySem.W.Frag} {σ : L2.St} {H : Hp} {Qv : VK} (h : tQ K W M (sFz q) σ H Qv) : tQ K W M q σ H Qv := by
  obtain ⟨n, ow, env, Q, E, s, hq, k, x⟩ := h
  exact ⟨n, ow, env, fun t env' => Q (.fz t.d) env', E, s, hq, fun v t H' ow' env' y s' o r z => by
    have y2 : Stp [] n H' ow' H' (Ow.mv ow' (.tm n) .base) := Stp.mv not_tm
    exact k v (.fz t.d) H' _ env' (y.trans y2 (fun _ h => h) nilsub (Nat.le_refl _) (Nat.le_refl _)) (s'.stp0 y2) o (Tq.fz_.mpr (r.frz (fun z => nomatch z))) z, x⟩
theorem s_setLc (i : Nat) (hc : X.calm = true) (hN : X.N.Nodup) (hi : QI X W Mi tg iter qi) (ok : BlkOk X.N X.env.scope scope own)
    (hg : ∀ (s : Shared) (H : Hp) (C : Addr) (cl : List (Str × Addr)) (fp : List Addr), QG (X.blk s H scope (compEnvC scope cl C X.env) fp) SS tg g) (ht : ∀ (s : Shared) (H : Hp) (C : Addr) (cl : List (Str × Addr)) (fp : List Addr), QTs (X.blk s H scope (compEnvC scope cl C X.env) fp) W0 Mt ifs t)
    (he : ∀ (s : Shared) (H : Hp) (C : Addr) (cl : List (Str × Addr)) (fp : List Addr), QE (X.blk s H scope (compEnvC scope cl C X.env) fp) W0 Me elt q) (hy : X.N[i]? = some y := by rfl) (hyl : X.env.scope.names.lookup y = some .local := by rfl)
    (hsw : swapsWith (.ListComp elt [⟨tg, iter, ifs, 0⟩] scope pos) (some (.Name y py)) spos.line X.env = pure true := by exact sw_true rfl rfl rfl (by decide +kernel)) (hs : ∀ i ∈ SS, i ∈ own.map (·.2) := by decide) (hv : ∀ i ∈ own.map (·.2), i ∉ Mt ++ Me := by decide) (hio : i ∉ IO := by decide)
    (hf : ∀ x, foldedSetIterable iter X.env x = pure x := by intro _; rfl) : QS X W IO (.Assign [.Name y py] (.ListComp elt [⟨tg, iter, ifs, 0⟩] scope pos) spos) (sSet i (sLc qi g t q (own.map (·.2)))) :=
  ⟨PS_imp (ps_setLc hc hN hy hyl hsw hi.run ok (fun s H C cl fp => (hg s H C cl fp).run) (fun s H C cl fp => (ht s H C cl fp).run) (fun s H C cl fp => (he s H C cl fp).run) hf) fun _ _ _ h => set_run (M := Mi ++ (Mt ++ Me)) hio h fun _ z => lc_run hs hv z⟩
theorem s_setLcF (i : Nat) (hc : X.calm = true) (hN : X.N.Nodup) (hi : QI X W Mi tg iter qi) (ok : BlkOk X.N X.env.scope scope own)
    (hg : ∀ (s : Shared) (H : Hp) (C : Addr) (cl : List (Str × Addr)) (fp : List Addr), QG (X.blk s H scope (compEnvC scope cl C X.env) fp) SS tg g) (ht : ∀ (s : Shared) (H : Hp) (C : Addr) (cl : List (Str × Addr)) (fp : List Addr), QTs (X.blk s H scope (compEnvC scope cl C X.env) fp) W0 Mt ifs t)
    (he : ∀ (s : Shared) (H : Hp) (C : Addr) (cl : List (Str × Addr)) (fp : List Addr), QE (X.blk s H scope (compEnvC scope cl C X.env) fp) W0 Me elt q) (hy : X.N[i]? = some y := by rfl) (hyl : X.env.scope.names.lookup y = some .local := by rfl)
    (hsw : swapsWith (.ListComp elt [⟨tg, iter, ifs, 0⟩] scope pos) (some (.Name y py)) spos.line X.env = pure true := by exact sw_true rfl rfl rfl (by decide +kernel)) (hs : ∀ i ∈ SS, i ∈ own.map (·.2) := by decide) (hv : ∀ i ∈ own.map (·.2), i ∉ Mt ++ Me := by decide) (hio : i ∉ IO := by decide)
    (hf : ∀ x, foldedSetIterable iter X.env x = pure x := by intro _; rfl) : QS X W IO (.Assign [.Name y py] (.ListComp elt [⟨tg, iter, ifs, 0⟩] scope pos) spos) (sSet i (sFz (sLc qi g t q (own.map (·.2))))) :=
  ⟨PS_imp (ps_setLc hc hN hy hyl hsw hi.run ok (fun s H C cl fp => (hg s H C cl fp).run) (fun s H C cl fp => (ht s H C cl fp).run) (fun s H C cl fp => (he s H C cl fp).run) hf) fun _ _ _ h => set_run (M := Mi ++ (Mt ++ Me)) hio h fun _ z => lc_run hs hv (fz_run z)⟩
end

section
variable {K : PySem.W.Frag} {H : Hp} {ow : Ow} {σ : L2.St} {env : Env} {i n : Nat} {ds : List D}
theorem own_at (s : StOk K H ow σ env) (e : env[i]? = some (some (.ow .lst ds))) : ∃ a vs, σ[i]? = some (some (.ref a)) ∧ H a = some (.lst vs) ∧ vs.length ≤ sizeLine ∧ Rps K (Bs H ow) vs ds ∧ ow a = .sl i := by
  obtain ⟨v, e1, S, r⟩ := s.at_ i _ e
  cases r with
  | ow c f r => exact ⟨_, _, e1, c.at_, c.sz, r, f _ rfl⟩
theorem own_set {a : Addr} {ds' : List D} {vs' : List V} (hc : ∀ ws, H a ≠ some (.tup ws)) (s : StOk K H ow σ env) (e1 : σ[i]? = some (some (.ref a))) (eo : ow a = .sl i) (hz : vs'.length ≤ sizeLine) (r : Rps K (Bs H ow) vs' ds') :
    Stp [i] n H ow (upd H a (.lst vs')) ow ∧ StOk K (upd H a (.lst vs')) ow σ (env.set i (some (.ow .lst ds'))) ∧ Out [i] env (env.set i (some (.ow .lst ds'))) := by
  have y : ∀ {m : Nat}, Stp [i] m H ow (upd H a (.lst vs')) ow := fun {m} => ⟨fun b o e q => by
    have ne : b ≠ a := fun z => by
      rw [z, eo] at q
      exact absurd (show i ∈ [i] by simp) q
    exact ⟨by rw [upd_ne ne]; exact e, rfl⟩, fun b ws e => by
    have ne : b ≠ a := fun z => hc ws (z ▸ e)
    rw [upd_ne ne]; exact e⟩
  refine ⟨y, s.stp (y (m := 0)) Out.set1 fun j t hj e => ?_, Out.set1⟩
  have ej : j = i := by simpa using hj
  subst ej
  have hl : j < env.length := by
    rw [s.len]
    exact (List.getElem?_eq_some_iff.mp e1).1
  rw [List.getElem?_set_self hl] at e
  cases e
  exact ⟨_, e1, _, .ow (dx := a) ⟨upd_same, hz, trivial⟩ (fun b fb => by
    have eb : b = a := fb
    rw [eb]; exact eo) (r.mono (y (m := 0)).bs)⟩
end
def isLst : Option (Option T) → Bool
  | some (some (.ow .lst _)) => true
  | _ => false
def sMt (i : Nat) (qs : SemD) (g : List D → List D → (D → List D → Prop) → Prop) : SemE := fun env Q E => isLst env[i]? = true ∧ qs env (fun ds env1 => match env1[i]? with
  | some (some (.ow .lst xs)) => g xs ds fun d xs' => Q (.fz d) (env1.set i (some (.ow .lst xs')))
  | _ => False) E
def MtO (K : PySem.W.Frag) (r : V → List V → Hp → VK → Prop) (g : List D → List D → (D → List D → Prop) → Prop) : Prop := ∀ (H : Hp) (B : Hp) (a : Addr) (us vs : List V) (xs ds : List D) (Q : D → List D → Prop) (Qv : VK), H a = some (.lst us) → us.length ≤ sizeLine → Rps K B us xs → Rps K B vs ds → g xs ds Q →
  (∀ v d us' xs', Rp K B v d → us'.length ≤ sizeLine → Rps K B us' xs' → Q d xs' → Qv v (upd H a (.lst us'))) → r (.ref a) vs H Qv
section
variable {X : Cx} {W : WX} {M : List Nat} {ks : List (Option Nat)} {e : Expr} {es : List Expr} {qs : SemD} {x name : Str} {px apos cpos : Pos} {id : String} {r : V → List V → Hp → VK → Prop} {g : List D → List D → (D → List D → Prop) → Prop}
theorem ty_list {K : PySem.W.Frag} {H : Hp} {ow : Ow} {σ : L2.St} {env : Env} {i : Nat} (s : StOk K H ow σ env) (h : isLst env[i]? = true) : ∃ a, σ[i]? = some (some (.ref a)) ∧ tyV K "list" (.ref a) H := by
  cases e : env[i]? with
  | none => rw [e] at h; cases h
  | some o =>
    cases o with
    | none => rw [e] at h; cases h
    | some t =>
      rw [e] at h
      cases t with
      | fz _ => cases h
      | nd _ _ => cases h
      | ow k ds =>
        cases k <;> first | cases h | skip
        obtain ⟨a, vs, e1, c, _⟩ := own_at s e
        exact ⟨a, e1, .inl ⟨rfl, vs, .inl (.inl c)⟩⟩
theorem q_mt (i : Nat) (slot : Slot "list" name id) (hty : typeOf (.builtin id) = pure (.type "method_descriptor")) (hm : MtR X id r) (hr : MtO X.K r g) (ha : QA X W M ks (e :: es) qs) (hk : (ks.all fun x => x.isNone) = true := by rfl) (hN : X.N[i]? = some x := by rfl)
    (hv : Vis X.env.scope x := by first | exact Or.inl rfl | exact Or.inr (Or.inl rfl) | exact Or.inr (Or.inr rfl)) (hd : (x == ("__debug__" : Str)) = false := by decide) (hcd : (x == ("__classdict__" : Str)) = false := by decide)
    (hbase : attributeBase (.Name x px) name X.env (eval (.Name x px) X.env) = eval (.Name x px) X.env := by rfl)
    (hfew : ((backTo cpos (starEach (e :: es) X.env)).all (fun x => !x.1) && (backToKw cpos (keywordEach [] X.env)).all (fun x => x.1.isSome)
      && decide ((e :: es).length + ([] : List Keyword).length + (if ([] : List Keyword).isEmpty then 0 else 1) < 30)) = true := by rfl)
    (hline : (apos.endLine == cpos.line) = true := by rfl) (hs : starEach (e :: es) X.env = (false, eval e X.env) :: starEach es X.env := by rfl) (hplain : (backTo cpos (starEach es X.env)).any (·.1) = false := by rfl) :
    QE X W (M ++ [i]) (.Call (.Attribute (.Name x px) name apos) (e :: es) [] cpos) (sMt i qs g) :=
  ⟨PE_imp (pe_bm PySem.F.plainAttrs_list slot hty hm (pe_var (i := i) hN hv hd hcd) ha.run hbase hfew hline hs hplain) fun σ H Qv ⟨n, ow, env, Q, E, s, ⟨h1, hq⟩, k, xx⟩ => by
    obtain ⟨a, e1, ty⟩ := ty_list s h1
    refine ⟨.ref a, e1, ty, tA_data hk s hq (fun r d H' ow' env' y s' o => xx r d H' ow' env' (y.mono subl (Nat.le_refl _)) s' (o.mono subl)) fun vs ds H1 ow1 env1 y1 s1 o1 l1 rr z => ?_⟩
    split at z
    · rename_i xs ee
      obtain ⟨a', us, e2, c, hz, r1, eo⟩ := own_at s1 ee
      rw [e1] at e2
      cases e2
      refine hr H1 (Bs H1 ow1) a us vs xs ds _ Qv c hz r1 rr z fun v d us' xs' rv hz' r' z' => ?_
      obtain ⟨y2, s2, o2⟩ := own_set (n := n) (fun ws z => by rw [c] at z; cases z) s1 e1 eo hz' r'
      exact k v (.fz d) _ ow1 _ (y1.trans y2 subl subr (Nat.le_refl _) (Nat.le_refl _)) s2 (o1.trans o2 subl subr) (Tq.fz_.mpr (rv.mono y2.bs)) z'
    · exact z.elim⟩
end
section
variable {K : PySem.W.Frag}
def gApp (xs ds : List D) (Q : D → List D → Prop) : Prop := match ds with
  | [d] => xs.length < sizeLine ∧ Q .non (xs ++ [d])
  | _ => False
theorem m_app : MtO K rAppend gApp := by
  intro H B a us vs xs ds Q Qv c hz r rr h k
  unfold gApp at h
  split at h
  · rename_i d
    cases rr with
    | cons rv rr =>
      cases rr
      have l := r.len
      exact ⟨a, us, _, rfl, rfl, c, by omega, k _ _ _ _ .non (by rw [List.length_append]; simp; omega) (r.app (.cons rv .nil)) h.2⟩
  · exact h.elim
def gPopAt (xs ds : List D) (Q : D → List D → Prop) : Prop := match ds with
  | [.int j] => 0 ≤ j ∧ ∃ d, xs[j.toNat]? = some d ∧ Q d (xs.eraseIdx j.toNat)
  | _ => False
theorem Rps.erase {B : Hp} : ∀ {us : List V} {xs : List D} (j : Nat), Rps K B us xs → Rps K B (us.eraseIdx j) (xs.eraseIdx j)
  | _, _, _, .nil => .nil
  | _, _, 0, .cons _ t => t
  | _, _, j + 1, .cons r t => .cons r (Rps.erase j t)
theorem m_popAt : MtO K rPopAt gPopAt := by
  intro H B a us vs xs ds Q Qv c hz r rr h k
  unfold gPopAt at h
  split at h
  · rename_i j
    cases rr with
    | cons rv rr =>
      cases rr
      cases rv
      obtain ⟨h0, d, e, q⟩ := h
      obtain ⟨v, ev, rv⟩ := r.get e
      have hl : j.toNat < us.length := (List.getElem?_eq_some_iff.mp ev).1
      have l63 := line63
      refine ⟨a, us, j, j.toNat, v, rfl, rfl, c, by omega, by omega, PySem.StrLaws.seqIndex_nonneg h0 (by omega), ev, k _ _ _ _ rv ?_ (r.erase _) q⟩
      have := len_erase us j.toNat
      omega
  · exact h.elim
end
section
variable {X : Cx} {W : WX} {M Ma Mb IO : List Nat} {e ix : Expr} {q qi : SemE} {x : Str} {px pos tpos : Pos}
theorem q_append (i : Nat) {es : List Expr} {ks : List (Option Nat)} {qs : SemD} {apos cpos : Pos} (ha : QA X W M ks (e :: es) qs) (hk : (ks.all fun x => x.isNone) = true := by rfl) (hN : X.N[i]? = some x := by rfl)
    (hv : Vis X.env.scope x := by first | exact Or.inl rfl | exact Or.inr (Or.inl rfl) | exact Or.inr (Or.inr rfl)) (hd : (x == ("__debug__" : Str)) = false := by decide) (hcd : (x == ("__classdict__" : Str)) = false := by decide)
    (hbase : attributeBase (.Name x px) "append" X.env (eval (.Name x px) X.env) = eval (.Name x px) X.env := by rfl)
    (hfew : ((backTo cpos (starEach (e :: es) X.env)).all (fun x => !x.1) && (backToKw cpos (keywordEach [] X.env)).all (fun x => x.1.isSome)
      && decide ((e :: es).length + ([] : List Keyword).length + (if ([] : List Keyword).isEmpty then 0 else 1) < 30)) = true := by rfl)
    (hline : (apos.endLine == cpos.line) = true := by rfl) (hs : starEach (e :: es) X.env = (false, eval e X.env) :: starEach es X.env := by rfl) (hplain : (backTo cpos (starEach es X.env)).any (·.1) = false := by rfl) :
    QE X W (M ++ [i]) (.Call (.Attribute (.Name x px) "append" apos) (e :: es) [] cpos) (sMt i qs gApp) :=
  q_mt i PySem.F.slot_list_append PySem.F.type_list_append mt_append m_app ha hk hN hv hd hcd hbase hfew hline hs hplain
theorem q_popAt (i : Nat) {es : List Expr} {ks : List (Option Nat)} {qs : SemD} {apos cpos : Pos} (ha : QA X W M ks (e :: es) qs) (hk : (ks.all fun x => x.isNone) = true := by rfl) (hN : X.N[i]? = some x := by rfl)
    (hv : Vis X.env.scope x := by first | exact Or.inl rfl | exact Or.inr (Or.inl rfl) | exact Or.inr (Or.inr rfl)) (hd : (x == ("__debug__" : Str)) = false := by decide) (hcd : (x == ("__classdict__" : Str)) = false := by decide)
    (hbase : attributeBase (.Name x px) "pop" X.env (eval (.Name x px) X.env) = eval (.Name x px) X.env := by rfl)
    (hfew : ((backTo cpos (starEach (e :: es) X.env)).all (fun x => !x.1) && (backToKw cpos (keywordEach [] X.env)).all (fun x => x.1.isSome)
      && decide ((e :: es).length + ([] : List Keyword).length + (if ([] : List Keyword).isEmpty then 0 else 1) < 30)) = true := by rfl)
    (hline : (apos.endLine == cpos.line) = true := by rfl) (hs : starEach (e :: es) X.env = (false, eval e X.env) :: starEach es X.env := by rfl) (hplain : (backTo cpos (starEach es X.env)).any (·.1) = false := by rfl) :
    QE X W (M ++ [i]) (.Call (.Attribute (.Name x px) "pop" apos) (e :: es) [] cpos) (sMt i qs gPopAt) :=
  q_mt i PySem.F.slot_list_pop PySem.F.type_list_pop mt_popAt m_popAt ha hk hN hv hd hcd hbase hfew hline hs hplain
def sStore (i : Nat) (q qi : SemE) : SemS := fun D env => q env (fun t env1 => match t with
  | .fz d => isLst env1[i]? = true ∧ qi env1 (fun u env2 => match u, env2[i]? with
    | .fz (.int k), some (some (.ow .lst xs)) => ∃ j, ixN xs.length k = some j ∧ D.nx (env2.set i (some (.ow .lst (xs.set j d))))
    | _, _ => False) D.ex
  | _ => False) D.ex
theorem s_store (i : Nat) (he : QE X W Ma e q) (hix : QE X W Mb ix qi) (hN : X.N[i]? = some x := by rfl) (hv : Vis X.env.scope x := by first | exact Or.inl rfl | exact Or.inr (Or.inl rfl) | exact Or.inr (Or.inr rfl)) (hd : (x == ("__debug__" : Str)) = false := by decide)
    (hcd : (x == ("__classdict__" : Str)) = false := by decide) (ha : ∀ v, assign (.Subscript (.Name x px) ix tpos) X.env v = (do
      let ov ← holding [v] (eval (.Name x px) X.env)
      let iv ← holding [v, ov] (eval ix X.env)
      standAt tpos
      holding [v, ov, iv] (setItem ov iv v)
      release [v, ov, iv] []) := by intro _; rfl) (hs : swapsWithSole [.Subscript (.Name x px) ix tpos] e pos.line X.env = pure false := by rfl) (hw : swappedStores [.Subscript (.Name x px) ix tpos] e X.env = pure none := by rfl)
    (h1 : (assignEach [.Subscript (.Name x px) ix tpos] X.env).map (·.2) = [assign (.Subscript (.Name x px) ix tpos) X.env] := by rfl) : QS X W IO (.Assign [.Subscript (.Name x px) ix tpos] e pos) (sStore i q qi) :=
  ⟨PS_imp (ps_asg he.run (pg_sub (pe_var (i := i) hN hv hd hcd) hix.run set_list ha) hs hw h1) fun D σ H ⟨ow, env, De, s, hq, k⟩ => ⟨0, ow, env, _, De.ex, s, hq, fun v t H1 ow1 env1 y1 s1 _ r1 z => by
    split at z
    · rename_i d
      obtain ⟨hl, z⟩ := z
      obtain ⟨a, e1, _⟩ := ty_list s1 hl
      refine ⟨.ref a, e1, 1, ow1, env1, _, De.ex, s1, z, fun w u H2 ow2 env2 y2 s2 _ r2 z2 => ?_, (k.ex.step y1.fs Ios.refl).xk⟩
      split at z2
      · rename_i kk xs e2
        obtain ⟨j, hj, z2⟩ := z2
        obtain ⟨a', us, e3, c, hz, rr, eo⟩ := own_at s2 e2
        rw [e1] at e3
        cases e3
        have ew := Tq.rd r2
        cases ew
        have rd := (Tq.fz_.mp r1).mono y2.bs
        refine ⟨a, us, kk, j, rfl, rfl, c, by rw [rr.len]; exact hj, ?_⟩
        obtain ⟨y3, s3, _⟩ := own_set (n := 0) (fun ws z => by rw [c] at z; cases z) s2 e1 eo (by rw [List.length_set]; exact hz) (rr.set rd j)
        exact k.nx _ _ _ _ ((y1.fs.trans y2.fs).trans y3.fs) Ios.refl s3 z2
      · exact z2.elim
    · exact z.elim, k.ex.xk⟩⟩
end
theorem pget_list {X : Cx} : PGet X (fun o i H Q => ∃ p xs k v, o = .ref p ∧ i = .int k ∧ SqL X.K H p xs ∧ atI xs k = some v ∧ Q v H) := by
  intro pins s σ H o i ov iv Q I ro ri ⟨p, xs, k, v, e1, e2, hq, he, q⟩
  subst e1 e2
  cases ro
  obtain ⟨t, rfl⟩ := ri
  obtain ⟨its, r, pl, hz⟩ := I.list hq
  obtain ⟨j, h1, h2, h3, h4, h5⟩ := atI_get he
  obtain ⟨w, ew, rw'⟩ := r.get h2
  have hl := r.length
  have hn := line63
  have fin : EP X pins σ Q w s := ⟨v, H, I, rw', q⟩
  by_cases h0 : 0 ≤ k
  · have hj : k.toNat = j := by
      rw [PySem.seqIndex_of h0 h5] at h1
      exact Option.some.inj h1
    exact PySem.wpAny_getItem_list pl.isList h0 (by omega) (by rw [hj]; simpa using ew) fin
  · have hj : (k + (its.toArray.size : Int)).toNat = j := by
      rw [PySem.seqIndex_neg (by omega) h4] at h1
      rw [List.size_toArray, ← hl]
      exact Option.some.inj h1
    exact PySem.wpAny_getItem_list_neg pl.isList (by omega) (by rw [List.size_toArray] <;> omega) (by omega) (by rw [hj]; simpa using ew) fin
def sAugS (i : Nat) (qi q : SemE) (f : Int → Int → Int) : SemS := fun D env => isLst env[i]? = true ∧ qi env (fun u env1 => match u, env1[i]? with
  | .fz (.int k), some (some (.ow .lst xs)) => ∃ j, ixN xs.length k = some j ∧ ∃ m : Int, xs[j]? = some (.int m) ∧ q env1 (fun t env2 => match t, env2[i]? with
    | .fz (.int b), some (some (.ow .lst ys)) => j < ys.length ∧ ys.length = xs.length ∧ D.nx (env2.set i (some (.ow .lst (ys.set j (.int (f m b))))))
    | _, _ => False) D.ex
  | _, _ => False) D.ex
section
variable {X : Cx} {W : WX} {M Ma Mb IO : List Nat} {e ix : Expr} {q qi : SemE} {x : Str} {px pos tpos : Pos} {op : Operator} {f : Int → Int → Int}
theorem s_augS (i : Nat) (hop : PIp X op (ipI f)) (hix : QE X W Mb ix qi) (he : QE X W Ma e q) (hN : X.N[i]? = some x := by rfl) (hv : Vis X.env.scope x := by first | exact Or.inl rfl | exact Or.inr (Or.inl rfl) | exact Or.inr (Or.inr rfl)) (hd : (x == ("__debug__" : Str)) = false := by decide)
    (hcd : (x == ("__classdict__" : Str)) = false := by decide) (ha : ∀ ov iv new, augStore ix ov iv new = (do holding [new, ov, iv] (setItem ov iv new); release [new, ov, iv] []; pure .next) := by intros; rfl) :
    QS X W IO (.AugAssign (.Subscript (.Name x px) ix tpos) op e pos) (sAugS i qi q f) :=
  ⟨PS_imp (ps_augS (pe_var (i := i) hN hv hd hcd) hix.run pget_list he.run hop set_list ha) fun D σ H ⟨ow, env, De, s, ⟨h1, hq⟩, k⟩ => by
    obtain ⟨a, e1, _⟩ := ty_list s h1
    refine ⟨.ref a, e1, 0, ow, env, _, De.ex, s, hq, fun w u H1 ow1 env1 y1 s1 _ r1 z1 => ?_, k.ex.xk⟩
    split at z1
    · rename_i kk xs e2
      obtain ⟨j, hj, m, hm, z1⟩ := z1
      obtain ⟨a', us, e3, c, hz, rr, eo⟩ := own_at s1 e2
      rw [e1] at e3
      cases e3
      have ew := Tq.rd r1
      cases ew
      obtain ⟨v, ev, rv⟩ := rr.get hm
      cases rv
      refine ⟨a, us, kk, .int m, rfl, rfl, .inl (.inl c), ?_, 1, ow1, env1, _, De.ex, s1, z1, fun w2 t H2 ow2 env2 y2 s2 _ r2 z2 => ?_, (k.ex.step y1.fs Ios.refl).xk⟩
      · unfold L2.atI
        rw [rr.len, hj]
        exact ev
      · split at z2
        · rename_i bb ys e4
          obtain ⟨hjl, hly, z2⟩ := z2
          obtain ⟨a', us2, e5, c2, hz2, rr2, eo2⟩ := own_at s2 e4
          rw [e1] at e5
          cases e5
          have ew2 := Tq.rd r2
          cases ew2
          refine ⟨m, bb, rfl, rfl, a, us2, kk, j, rfl, rfl, c2, by rw [rr2.len, hly]; exact hj, ?_⟩
          obtain ⟨y3, s3, _⟩ := own_set (n := 0) (fun ws z => by rw [c2] at z; cases z) s2 e1 eo2 (by rw [List.length_set]; exact hz2) (rr2.set (.int (f m bb)) j)
          exact k.nx _ _ _ _ ((y1.fs.trans y2.fs).trans y3.fs) Ios.refl s3 z2
        · exact z2.elim
    · exact z1.elim⟩
end
end QV

set_option Elab.async false
set_option linter.all false
set_option maxRecDepth 100000
set_option maxHeartbeats 2000000
namespace QV
open PySem L2

def cutL {α : Type} (xs : List α) (lo hi : Option Int) : List α := (xs.drop (HT.sIx xs.length 0 lo)).take (HT.sIx xs.length xs.length hi - HT.sIx xs.length 0 lo)
abbrev SemO := Env → (Option Int → Env → Prop) → XQ → Prop
def tO (K : PySem.W.Frag) (W : WX) (M : List Nat) (q : SemO) : TO := fun σ H Qv => ∃ (n : Nat) (ow : Ow) (env : Env) (Q : Option Int → Env → Prop) (E : XQ), StOk K H ow σ env ∧ q env Q E ∧
  (∀ (o : Option Int) (H' : Hp) (ow' : Ow) (env' : Env), Stp M n H ow H' ow' → StOk K H' ow' σ env' → Out M env env' → Q o env' → Qv o H') ∧ Xk K W M σ H n ow env E
structure QO (X : Cx) (W : WX) (M : List Nat) (e : Option Expr) (q : SemO) : Prop where
  run : PO X e (tO X.K W M q)
theorem PO_imp {X : Cx} {e : Option Expr} {t t' : TO} (h : PO X e t) (f : ∀ σ H Q, t' σ H Q → t σ H Q) : PO X e t' := ⟨fun pins s σ H Q I q => h.run pins s σ H Q I (f _ _ _ q)⟩
def oNone : SemO := fun env Q _ => Q none env
def oSome (q : SemE) : SemO := fun env Q E => q env (fun t env1 => match t with
  | .fz (.int i) => Q (some i) env1
  | _ => False) E
def SlG (K : PySem.W.Frag) (r : V → Option Int → Option Int → Hp → VK → Prop) (g : T → Option Int → Option Int → (T → Prop) → Prop) : Prop := ∀ (H : Hp) (ow : Ow) (n : Nat) (x : V) (t : T) (lo hi : Option Int) (Q : T → Prop) (Qv : VK), Ro K H ow x t → g t lo hi Q →
  (∀ v w H' ow', Stp [] n H ow H' ow' → Tq K H' ow' (.tm n) v w → Q w → Qv v H') → r x lo hi H Qv
def sSl (pa : SemP) (ql qh : SemO) (g : T → Option Int → Option Int → (T → Prop) → Prop) : SemE := fun env Q E => pa env (fun t _ env1 => ql env1 (fun lo env2 => qh env2 (fun hi env3 => g t lo hi fun w => Q w env3) E) E) E
section
variable {X : Cx} {W : WX} {M Ma Ml Mh : List Nat} {e : Expr} {lo hi : Option Expr} {pa : SemP} {q : SemE} {ql qh : SemO} {ra : Option Nat} {pos p2 : Pos}
theorem o_none : QO X W [] none oNone := ⟨PO_imp po_none fun σ H Qv ⟨n, ow, env, Q, E, s, hq, k, x⟩ => k none H ow env Stp.refl s Out.refl hq⟩
theorem o_some (h : QE X W M e q) : QO X W M (some e) (oSome q) := ⟨PO_imp (po_some h.run) fun σ H Qv ⟨n, ow, env, Q, E, s, hq, k, x⟩ => ⟨n, ow, env, _, E, s, hq, fun v t H' ow' env' y s' o r z => by
  split at z
  · have := Tq.rd r
    cases this
    exact ⟨_, rfl, k _ H' ow' env' y s' o z⟩
  · exact z.elim, x⟩⟩
theorem q_sl {r : V → Option Int → Option Int → Hp → VK → Prop} {g : T → Option Int → Option Int → (T → Prop) → Prop} (hs : SlR X r) (hg : SlG X.K r g) (ha : QP X W Ma ra e pa) (hl : QO X W Ml lo ql) (hh : QO X W Mh hi qh) (hr : okR ra Ml = true := by decide) (hr2 : okR ra Mh = true := by decide) :
    QE X W (Ma ++ (Ml ++ Mh)) (.Subscript e (.Slice lo hi none p2) pos) (sSl pa ql qh g) :=
  ⟨PE_imp (pe_slice hs ha.run hl.run hh.run) fun σ H Qv ⟨n, ow, env, Q, E, s, hq, k, x⟩ => ⟨n, ow, env, _, E, s, hq, fun v t pt H1 ow1 env1 y1 s1 o1 r1 z1 =>
    ⟨n + 1, ow1, env1, _, E, s1, z1, fun l H2 ow2 env2 y2 s2 o2 z2 => ⟨n + 1, ow2, env2, _, E, s2, z2, fun u H3 ow3 env3 y3 s3 o3 z3 => by
      have y12 := y1.trans y2 subl (fun i h => subr i (subl i h)) (Nat.le_refl _) (Nat.le_succ _) (M := Ma ++ (Ml ++ Mh))
      have o12 := o1.trans o2 subl (fun i h => subr i (subl i h)) (M := Ma ++ (Ml ++ Mh))
      have r3 := ((r1.stp y2 o2 hr (Nat.lt_succ_self _)).stp y3 o3 hr2 (Nat.lt_succ_self _)).ro s3
      exact hg H3 ow3 n v t l u _ Qv r3 z3 fun v' w H4 ow4 y4 r4 z4 => k v' w H4 ow4 env3 ((y12.trans y3 (fun _ h => h) (fun i h => subr i (subr i h)) (Nat.le_refl _) (Nat.le_succ _)).trans y4 (fun _ h => h) nilsub (Nat.le_refl _) (Nat.le_refl _)) (s3.stp0 y4) (o12.trans o3 (fun _ h => h) (fun i h => subr i (subr i h))) r4 z4,
      x.step (y1.trans y2 subl (fun i h => subr i (subl i h)) (Nat.le_refl _) (Nat.le_succ _)) (o1.trans o2 subl (fun i h => subr i (subl i h))) (fun _ h => h) (fun i h => subr i (subr i h)) (Nat.le_refl _) (Nat.le_succ _)⟩,
      x.step y1 o1 subl (fun i h => subr i (subl i h)) (Nat.le_refl _) (Nat.le_succ _)⟩, fun r d H' ow' env' y s' o => x r d H' ow' env' (y.mono subl (Nat.le_refl _)) s' (o.mono subl)⟩⟩
end
section
variable {K : PySem.W.Frag}
theorem cutV_eq (xs : List V) (lo hi : Option Int) : cutV xs lo hi = cutL xs lo hi := rfl
theorem Rps.cut {B : Hp} {vs : List V} {ds : List D} (r : Rps K B vs ds) (lo hi : Option Int) : Rps K B (cutL vs lo hi) (cutL ds lo hi) := by
  unfold cutL
  rw [r.len]
  exact (r.drop _).take _
theorem cut_ints (ns : List Int) (lo hi : Option Int) : cutL (ns.map V.int) lo hi = (cutL ns lo hi).map V.int := by
  unfold cutL
  rw [List.length_map, ← List.map_drop, ← List.map_take]
def slG (t : T) (lo hi : Option Int) (Q : T → Prop) : Prop := match t with
  | .fz (.nd .lst ds) => Q (.ow .lst (cutL ds lo hi))
  | .ow .lst ds => Q (.ow .lst (cutL ds lo hi))
  | .fz (.scr ns) => ns.length ≤ sizeLine ∧ Q (.ow .lst ((cutL ns lo hi).map .int))
  | .fz (.nd .tup ds) => Q (.fz (.nd .tup (cutL ds lo hi)))
  | .fz (.str z) => z.length ≤ sizeLine ∧ Q (.fz (.str (cutS z lo hi)))
  | _ => False
def rSlAll (K : PySem.W.Frag) : V → Option Int → Option Int → Hp → VK → Prop := fun x lo hi H Q => rSlL K x lo hi H Q ∨ rSlA K x lo hi H Q ∨ rSlS x lo hi H Q
theorem sl_all {X : Cx} : SlR X (rSlAll X.K) := sl_list.or (sl_tupA.or sl_str)
theorem g_sl : SlG K (rSlAll K) slG := by
  intro H ow n x t lo hi Q Qv rx h k
  have lst : ∀ {ds : List D}, shL t = some ds → Q (.ow .lst (cutL ds lo hi)) → rSlAll K x lo hi H Qv := fun {ds} e q => by
    obtain ⟨a, vs, rfl, c, z, r⟩ := rx.lst e
    exact .inl ⟨a, vs, rfl, .inl (.inl c), fun p hp => k _ _ _ (Ow.put ow p (.tm n)) (Stp.new hp) (Tq.newL hp (Nat.le_trans (cutV_length _ _ _) z) (r.cut lo hi)) q⟩
  unfold slG at h
  split at h
  · exact lst rfl h
  · exact lst rfl h
  · rename_i ns
    have rd := rx.rd
    cases rd with
    | scr c =>
      refine .inl ⟨_, _, rfl, c, fun p hp => k _ _ _ (Ow.put ow p (.tm n)) (Stp.new hp) (Tq.newL hp ?_ ?_) h.2⟩
      · exact Nat.le_trans (cutV_length _ _ _) (by rw [List.length_map]; exact h.1)
      · rw [cutV_eq, cut_ints]
        exact of_ints _
  · rename_i ds
    obtain ⟨a, vs, rfl, c, z, r⟩ := rx.tup rfl
    refine .inr (.inl ⟨a, vs, rfl, c, fun w => ?_, fun _ p hp => k _ _ _ (Ow.put ow p .base) (Stp.new hp) (Tq.fz_.mpr (.tup (by rw [bs_of put_same, upd_same]) (Nat.le_trans (cutV_length _ _ _) z) ((r.cut lo hi).mono (Stp.bs (M := []) (n := 0) (Stp.new hp))))) h⟩)
    have e : cutL ds lo hi = ds := by
      unfold cutL
      rw [← r.len, w.1, w.2]
      simp [r.len]
    rw [e] at h
    exact k _ _ H ow Stp.refl (by obtain ⟨l, rx⟩ := rx; exact Tq.fz_.mpr (Tq.fz_.mp rx)) h
  · exact .inr (.inr ⟨_, rx.str, h.1, k _ _ H ow Stp.refl (Tq.fz_.mpr (.str _)) h.2⟩)
  · exact h.elim
end
section
variable {X : Cx} {W : WX} {M Ma Ml Mh : List Nat} {e : Expr} {lo hi : Option Expr} {pa : SemP} {q : SemE} {ql qh : SemO} {ra : Option Nat} {pos p1 p2 p3 : Pos}
theorem q_slice (ha : QP X W Ma ra e pa) (hl : QO X W Ml lo ql) (hh : QO X W Mh hi qh) (hr : okR ra Ml = true := by decide) (hr2 : okR ra Mh = true := by decide) : QE X W (Ma ++ (Ml ++ Mh)) (.Subscript e (.Slice lo hi none p2) pos) (sSl pa ql qh slG) := q_sl sl_all g_sl ha hl hh hr hr2
def revG (t : T) (Q : T → Prop) : Prop := match shL t with
  | some ds => Q (.ow .lst ds.reverse)
  | none => False
theorem q_revL {k : Nat} (ha : QP X W M ra e pa) : QE X W M (.Subscript e (.Slice none none (some (.UnaryOp .USub (.Constant (.int 1) k p1) p2)) p3) pos) (s1 pa revG) :=
  ⟨PE_imp (pe_revL ha.run) fun σ H Qv ⟨n, ow, env, Q, E, s, hq, k, x⟩ => ⟨n, ow, env, _, E, s, hq, fun v t pt H' ow' env' y s' o r z => by
    unfold revG at z
    split at z
    · rename_i ds e
      obtain ⟨a, vs, rfl, c, hz, rr⟩ := (r.ro s').lst e
      exact ⟨a, vs, rfl, .inl (.inl c), fun p hp => k _ _ _ (Ow.put ow' p (.tm n)) env' (y.trans (Stp.new hp) (fun _ h => h) nilsub (Nat.le_refl _) (Nat.le_refl _)) (s'.stp0 (n := 0) (Stp.new hp)) o (Tq.newL hp (by rw [List.length_reverse]; exact hz) rr.rev) z⟩
    · exact z.elim, x⟩⟩
end
def shwD (d : D) : Prop := d.py.showable = true ∧ d.py.shown.length ≤ sizeLine
theorem noDict_of_lay : ∀ d : PyData, d.canLay0 = true → d.hasDict = false := fun d h => PyData.hasDict_of_canLay d h
def rRepr (K : PySem.W.Frag) : List V → Hp → VK → Prop := fun xs H Q => ∃ x d, xs = [x] ∧ Dp K H x d ∧ SeqAt.shaped d = true ∧ d.showable = true ∧ d.shown.length ≤ sizeLine ∧ Q (.str d.shown) H
theorem c_repr {X : Cx} (hG : X.A.guards = some []) (hu : X.A.units + 66 < cLine) : CallR X (.builtin "repr") (rRepr X.K) := by
  intro pins s σ H xs us Q I r ⟨x, d, ex, hd, hs, hw, hz, q⟩
  subst ex
  obtain ⟨u, rfl, ru⟩ := vals1 r
  have hl := SeqAt.canLay_of_shaped hs
  have hdep := SeqAt.depth_of_shaped hs
  obtain ⟨as, rd⟩ := Dp.reads I d x u hd ru
  cases hd with
  | non => cases ru; rw [PyData.shown_none] at q; exact PySem.P.repr_of_none ⟨.str _, H, I.tok _, ⟨_, rfl⟩, q⟩
  | bl b => cases ru; rw [PyData.shown_bool] at q; exact PySem.P.repr_of_bool ⟨.str _, H, I.tok _, ⟨_, by cases b <;> rfl⟩, q⟩
  | int i => obtain ⟨t, rfl⟩ := ru; rw [PyData.shown_int] at q; exact PySem.P.repr_of_int (by simpa [PyData.showable] using hw) ⟨.str _, H, I.tok _, ⟨_, rfl⟩, q⟩
  | str z => obtain ⟨t, rfl⟩ := ru; rw [PyData.shown_str] at q hz; exact PySem.P.repr_of_str ⟨.str _, H, I.tok _, ⟨_, rfl⟩, q⟩ hz
  | lst h1 h2 =>
    cases ru
    exact repr_of_reads' rd hw (fun z => by rw [noDict_of_lay _ hl] at z; cases z) hG (by omega) (fun _ _ e => e) (fun h' u tk hk => ⟨.str _, H, I.kept hk, ⟨_, rfl⟩, q⟩) hz
  | tup h1 h2 =>
    cases ru
    exact repr_of_reads' rd hw (fun z => by rw [noDict_of_lay _ hl] at z; cases z) hG (by omega) (fun _ _ e => e) (fun h' u tk hk => ⟨.str _, H, I.kept hk, ⟨_, rfl⟩, q⟩) hz
def reprG (t : T) (Q : T → Prop) : Prop := t.d.pl 64 = true ∧ shwD t.d ∧ Q (.fz (.str t.d.py.shown))
theorem g_repr {K : PySem.W.Frag} : Op1 K (fun x H Q => rRepr K [x] H Q) reprG := by
  intro H ow n x t Q Qv rx ⟨h1, h2, q⟩ k
  exact ⟨x, _, rfl, rx.rd.dp _ h1, D.pl_shaped h1 (Nat.le_refl _), h2.1, h2.2, k _ _ H ow Stp.refl (Tq.fz_.mpr (.str _)) q⟩
end QV

set_option Elab.async false
set_option linter.all false
set_option maxRecDepth 100000
set_option maxHeartbeats 2000000
namespace QV
open PySem PySem.Spec PyProof.Rows L2

theorem hu65 {A : Around} {k : Nat} (hr : Room k A) : A.units + 65 < cLine := by have := hr.un; omega
theorem hu66 {A : Around} {k : Nat} (hr : Room k A) : A.units + 66 < cLine := by have := hr.un; omega
theorem bt_len : bootBuiltins "len" = some (.builtin "len") := by decide +kernel
theorem bt_abs : bootBuiltins "abs" = some (.builtin "abs") := by decide +kernel
theorem bt_repr : bootBuiltins "repr" = some (.builtin "repr") := by decide +kernel
theorem bt_sorted : bootBuiltins "sorted" = some (.builtin "sorted") := by decide +kernel
theorem bt_list : bootBuiltins "list" = some (.type "list") := by decide +kernel
def DefAt (K : PySem.W.Frag) (mg : Str → Option Value) (x : Str) (st : Stmt) (ps : List Str) : Prop := ∃ f fd, Fun K x x st f fd ∧ mg x = some (.ref f) ∧ Binds K fd ps []
def Callee (P : Program) (w : World) (K : PySem.W.Frag) (mg : Str → Option Value) (base : Heap) (k : Nat) (x : Str) (ps : List Str) (io : List Nat) (spec : SemF) : Prop := ∃ f fd, QFn P w K mg base k f fd ps io spec ∧ mg x = some (.ref f) ∧ PySem.W.keepIn K (.ref f) = true ∧ Binds K fd ps []
section
variable {P : Program} {w : World} {K : PySem.W.Frag} {mg : Str → Option Value} {base : Heap}
theorem callee_of {k : Nat} {x : Str} {st : Stmt} {N ps : List Str} {io : List Nat} {spec : SemF} (Df : DefAt K mg x st ps) (S : FnScope N ps (defScope st)) (hio : (io.all fun i => decide (i < ps.length)) = true) (hpN : ps.length ≤ N.length)
    (hb : ∀ (f : Addr) (cdv : Value) (A : Around) (outer : List PySem.Env) (s : Shared) (H : Hp) (E : XK) (W : WX), Room k (A.deeper (envOfC x (defScope st) s.heap.objs.size f cdv)) → A.guards = some [] → L2.Takes (cxOf (L2.CX P w) P w K mg base N x (defScope st) f cdv A outer s H E) W →
      PassesOwn (model P w) (A.deeper (envOfC x (defScope st) s.heap.objs.size f cdv)) (envOfC x (defScope st) s.heap.objs.size f cdv) (cxOf (L2.CX P w) P w K mg base N x (defScope st) f cdv A outer s H E).xe →
      ∃ q, QSs (cxOf (L2.CX P w) P w K mg base N x (defScope st) f cdv A outer s H E) W io (defBody st) q ∧ ∀ args Q E, args.length = ps.length → spec args Q E → q (EndsF io Q E) (env0 N.length args)) : Callee P w K mg base (k + 1) x ps io spec :=
  let ⟨f, fd, F, m, b⟩ := Df
  ⟨f, fd, qfn_of F S hio hpN (hb f), m, F.kp, b⟩
theorem Callee.imp {k : Nat} {x : Str} {ps : List Str} {io : List Nat} {spec spec' : SemF} (C : Callee P w K mg base k x ps io spec) (h : ∀ a Q E, spec' a Q E → spec a Q E) : Callee P w K mg base k x ps io spec' :=
  let ⟨f, fd, F, r⟩ := C
  ⟨f, fd, F.imp h, r⟩
theorem def_at {x : Str} {st : Stmt} {ps : List Str} {h : Heap} {f : Addr} {oc : Value} {od an : Option Addr} {osl : Array (Option Value)} {kV doc pm cdv ct : Value} (X : K.In h) (G : h.Ns mainGlobals mg) (a : PySem.W.nsIn K mainGlobals x = some (some (.ref f)))
    (l : K.lookup f = some ⟨oc, od, .func (PySem.W.fnOf x x (defArgs st) (defBody st) (defScope st) .none kV doc pm an cdv ct), osl⟩) (c : PySem.W.codeIn K cdv x = true) (k : PySem.W.keepIn K (.ref f) = true)
    (hb : ∀ (kV doc pm : Value) (an : Option Addr) (cdv ct : Value) (us : List Value), us.length = ps.length → bindArgs (PySem.W.fnOf x x (defArgs st) (defBody st) (defScope st) .none kV doc pm an cdv ct) ⟨us, []⟩ = pure (ps.zip us)) : DefAt K mg x st ps :=
  have F := fun_mk (x := x) (qual := x) (st := st) l c k
  ⟨f, _, F, PySem.W.mg_of X G a, F.binds hb⟩
end
section
variable {X : Cx} {W : WX} {M : List Nat} {j k : Nat} {ps : List Str} {io : List Nat} {spec : SemF} {ks : List (Option Nat)} {e : Expr} {es : List Expr} {qs : SemD} {x : Str} {p pos : Pos}
theorem q_callC (C : Callee X.prog X.w X.K X.mg X.base k x ps io spec) (tk : L2.Takes X W) (hr : Room k X.A) (hG : X.A.guards = some []) (hg : Gl X x)
    (ha : QA X W M ks (e :: es) qs) (cs : List Nat) (hio : io.Nodup := by decide) (hK : okK ks io cs = true := by decide) (hn : ks.length = ps.length := by rfl) (hdb : (x == ("__debug__" : Str)) = false := by decide) (he : starEach (e :: es) X.env = (false, eval e X.env) :: starEach es X.env := by rfl)
    (hpl : (backTo pos (starEach es X.env)).any (·.1) = false := by rfl) : QE X W (M ++ cs) (.Call (.Name x p) (e :: es) [] pos) (sCall spec ks cs qs) :=
  let ⟨_, _, F, hm, hk, hb⟩ := C
  q_call F tk hr hG hg hm hk hb ha cs hio hK hn hdb he hpl
end
end QV

set_option Elab.async false
set_option linter.all false
set_option maxRecDepth 100000
set_option maxHeartbeats 2000000
namespace QV
open PySem L2
theorem cmulR {i j : Int} (h1 : -(18446744073709551616) < j) (h2 : j < 18446744073709551616) : CMul i j := .inr ⟨by simpa using h1, by simpa using h2⟩
theorem cmulL {i j : Int} (h1 : -(18446744073709551616) < i) (h2 : i < 18446744073709551616) : CMul i j := .inl ⟨by simpa using h1, by simpa using h2⟩
theorem cdivS {i j : Int} (h1 : 0 < j) (h2 : j < 18446744073709551616) : CDivW i j := ⟨h1, by
  have h : j.natAbs.log2 < 64 := (Nat.log2_lt (by omega)).mpr (by omega)
  omega⟩
theorem cdivB {i j : Int} (h1 : 0 < j) (h2 : j < 10000000000000000000000) : CDivW i j := ⟨h1, by
  have h : j.natAbs.log2 < 74 := (Nat.log2_lt (by omega)).mpr (by omega)
  omega⟩
theorem ixN_of {n : Nat} {i : Int} (h0 : 0 ≤ i) (h1 : i < n) : ixN n i = some i.toNat := by
  unfold ixN
  rw [if_pos h0, if_pos h1]
theorem at_lt {α : Type} {ds : List α} {i : Int} (h0 : 0 ≤ i) (h1 : i < ds.length) : ∃ d, atI ds i = some d ∧ d ∈ ds := by
  unfold atI
  rw [ixN_of h0 h1]
  have h2 : i.toNat < ds.length := by omega
  exact ⟨ds[i.toNat], by simp [h2], List.getElem_mem h2⟩
theorem at_all {α : Type} {ds : List α} {i : Int} {C : α → Prop} {R : α → Prop} (h0 : 0 ≤ i) (h1 : i < ds.length) (hC : ∀ d ∈ ds, C d) (k : ∀ d, C d → R d) : ∃ d, atI ds i = some d ∧ R d := by
  obtain ⟨d, e, m⟩ := at_lt h0 h1
  exact ⟨d, e, k d (hC d m)⟩
theorem at_of {α : Type} {l : List α} {k : Nat} {a : α} (h : l[k]? = some a) : atI l (k : Int) = some a := by
  have hk : k < l.length := (List.getElem?_eq_some_iff.mp h).1
  unfold atI
  rw [ixN_of (by omega) (by omega)]
  simpa using h
theorem at_int {α : Type} {l : List α} {i : Int} {a : α} (h0 : 0 ≤ i) (h : l[i.toNat]? = some a) : atI l i = some a := by
  have := at_of h
  rwa [Int.toNat_of_nonneg h0] at this
theorem at_last {α : Type} {l : List α} {a : α} (h : l[l.length - 1]? = some a) : atI l (-1) = some a := by
  have hk : l.length - 1 < l.length := (List.getElem?_eq_some_iff.mp h).1
  unfold atI ixN
  rw [if_neg (by omega), if_pos (by omega)]
  show l[((-1 : Int) + l.length).toNat]? = some a
  have : ((-1 : Int) + l.length).toNat = l.length - 1 := by omega
  rw [this]
  exact h
def IsBag (t : T) : Prop := ∃ a b c : Int, ∃ ns : List Int, t = .ow .lst [.int a, .int b, .int c, .nd .lst (ns.map .int)] ∧ 0 ≤ a ∧ 0 ≤ b ∧ b < 2147483647 ∧ 0 ≤ c ∧ ∀ x, x ∈ ns → 0 ≤ x
def takeS : SemF := fun args Q E => ∃ t n, args = [t, .fz (.int n)] ∧ IsBag t ∧ 0 < n ∧ n < 18446744073709551616 ∧ ∀ v t', 0 ≤ v → v < n → IsBag t' → Q (.fz (.int v)) [t']
def bagS : SemF := fun args Q E => ∃ ns : List Int, args = [.fz (.scr ns)] ∧ ns.length ≤ 63 ∧ ∀ t', IsBag t' → Q t' []
def alikeS : SemF := fun args Q E => ∃ d : D, args = [.fz d, .fz d] ∧ d.pl 64 = true ∧ shwD d ∧ Q (.fz (.bl true)) []
def lookS (C : D → Prop) : SemF := fun args Q E => ∃ d : D, args = [.fz d] ∧ C d ∧ Q (.fz (.bl true)) []
mutual
theorem eqD_self : ∀ (n : Nat) (d : D), d.pl n = true → eqD d d = true
  | _, .non, _ => rfl
  | _, .bl _, _ => by simp [eqD]
  | _, .int _, _ => by simp [eqD]
  | _, .str _, _ => by simp [eqD]
  | n, .scr _, h => by cases n <;> simp [D.pl] at h
  | 0, .nd _ _, h => by simp [D.pl] at h
  | n + 1, .nd .lst ds, h => by rw [eqD]; exact eqDs_self n ds (by simpa [D.pl] using h)
  | n + 1, .nd .tup ds, h => by rw [eqD]; exact eqDs_self n ds (by simpa [D.pl] using h)
  | n + 1, .nd (.dK _) ds, h => by simp [D.pl] at h
  | n + 1, .nd (.dT _) ds, h => by simp [D.pl] at h
  | n + 1, .nd (.lkT _ _) ds, h => by simp [D.pl] at h
  | n + 1, .nd (.lsA _) ds, h => by simp [D.pl] at h
  | n + 1, .nd (.ins _ _) ds, h => by simp [D.pl] at h
theorem eqDs_self : ∀ (n : Nat) (ds : List D), Dspl n ds = true → eqDs ds ds = true
  | _, [], _ => rfl
  | n, d :: ds, h => by
    have h' : D.pl n d = true ∧ Dspl n ds = true := by simpa [Dspl] using h
    rw [eqDs, eqD_self n d h'.1, eqDs_self n ds h'.2]
    rfl
end
end QV

set_option Elab.async false
set_option Elab.async false
set_option linter.all false
set_option maxRecDepth 100000
set_option maxHeartbeats 2000000
namespace QV
open PySem PySem.Spec PyProof.Rows L2
section
variable {P : Program} {w : World} {K : PySem.W.Frag} {mg mb : Str → Option Value} {k : Nat} {fa a : Addr} {p1 : Str} {sp : Sp} {st : Shared}
theorem end_core {us : List Value} (inK : K.In st.heap) (gN : st.heap.Ns mainGlobals mg) (bN : st.heap.Ns builtinsNs mb) (boot : ∀ y : Str, y ≠ "__name__" → mb y = bootBuiltins y) (lim : st.heap.NoLimit) (gens : st.gens = #[])
    (cell : st.heap.get? a = some { cls := .type "list", data := .seq us.toArray }) (room : Room k callerA) (F : ∀ base : Heap, ∃ fd, FnG P w K mg base k fa fd [p1] sp ∧ Binds K fd [p1] [])
    (H : Hp) (only : Only H) (say : sp [.ref a] H (fun v _ => v = .bl true) fun _ _ _ => False) (ok0 : HOk P w H st.heap) (just : ∀ b, H b ≠ none → b = a) (out : H a ≠ none → K.lookup a = none) :
    codeAny (model P w) callerA (.call (.ref fa) ⟨[.ref a], []⟩) (fun r s' => r = .ok (.ret (.bool true)) ∧ OldK st.heap s'.heap ∧ s'.os = st.os ∧ AllBare s'.gens) st := by
  have free : ∀ {b : Addr} {o : Obj} {es : Array DictEntry} {n : Nat}, st.heap.get? b = some o → o.data = .dict es n → H b = none := by
    intro b o es n e1 e2
    rcases Classical.em (H b = none) with z | z
    · exact z
    · have eb := just b z
      subst eb
      have := cell.symm.trans e1
      cases this
      exact Data.noConfusion e2
  have keepNs : ∀ {b : Addr} {m : Str → Option Value}, st.heap.Ns b m → (hidT st.heap H).Ns b m := by
    rintro b m ⟨o, es, n, g1, g2, rest⟩
    exact ⟨o, es, n, hidT_get g1 (free g1 g2), g2, rest⟩
  have inB : K.In (hidT st.heap H) := by
    intro b o e
    refine hidT_get (inK b o e) ?_
    rcases Classical.em (H b = none) with z | z
    · exact z
    · have eb := just b z
      subst eb
      have := (out z).symm.trans e
      cases this
  obtain ⟨mc, lim1, lim2⟩ := lim
  have md : Mod K mg (hidT st.heap H) := ⟨inB, keepNs gN, ⟨mb, keepNs bN, boot⟩, ⟨mc, keepNs lim1, lim2⟩⟩
  have none0 : ∀ {b : Addr}, b ∉ ([] : List Addr) := fun z => nomatch z
  have env0 : Env0 P w K mg (hidT st.heap H) callerA [] st H :=
    ⟨rfl, md, fun _ _ z => of_hidT z, Nat.le_of_eq (hidT_size _ _), trivial, fun _ z => absurd z none0, ok0, .of_eq gens⟩
  obtain ⟨fd, fn, bnd⟩ := F (hidT st.heap H)
  have run := fn.run callerA [] st H ⟨[.ref a], []⟩ [.ref a] [.ref a] _ _ room rfl env0 (bnd st [.ref a] inK rfl) (.cons rfl .nil) say
  refine codeAny_mono run fun r s' told => ?_
  rcases r with ex | fl
  · obtain ⟨_, _, _, _, _, _, _, _, _, _, _, _, z⟩ := told
    exact z.elim
  · cases fl with
    | ret u =>
      obtain ⟨v, H2, os, bare, un, ok2, ru, ev⟩ := told
      cases (show v = .bl true from ev)
      cases (show u = Value.bool true from ru)
      refine ⟨rfl, OldK.of_keep ?_, os, bare⟩
      intro b o e
      rcases only b with z | ⟨oo, ys, z⟩
      · exact un.keep b o e z none0 (by simp)
      · have g1 := (ok0 b _ z).1
        have g2 := (ok2 b _ (un.frzs b oo _ z)).1
        rw [e] at g1
        cases g1
        exact g2
    | next => exact told.elim
    | brk => exact told.elim
    | cont => exact told.elim
theorem end_call {us : List Value} {ns : List Int} (inK : K.In st.heap) (gN : st.heap.Ns mainGlobals mg) (bN : st.heap.Ns builtinsNs mb) (boot : ∀ y : Str, y ≠ "__name__" → mb y = bootBuiltins y) (lim : st.heap.NoLimit) (gens : st.gens = #[])
    (cell : st.heap.get? a = some { cls := .type "list", data := .seq us.toArray }) (nums : IntsAre us ns) (size : ns.length ≤ sizeLine) (room : Room k callerA) (F : ∀ base : Heap, ∃ fd, FnG P w K mg base k fa fd [p1] sp ∧ Binds K fd [p1] [])
    (say : ∀ H : Hp, SqL K H a (ns.map V.int) → sp [.ref a] H (fun v _ => v = .bl true) fun _ _ _ => False) :
    codeAny (model P w) callerA (.call (.ref fa) ⟨[.ref a], []⟩) (fun r s' => r = .ok (.ret (.bool true)) ∧ OldK st.heap s'.heap ∧ s'.os = st.os ∧ AllBare s'.gens) st := by
  have vals := vals_ints nums
  have same := nums.length
  have go := fun H => end_core (p1 := p1) (sp := sp) inK gN bN boot lim gens cell room F H
  rcases lk : K.lookup a with _ | o
  · let H0 : Hp := fun b => if b = a then some (.frz { cls := .type "list", data := .seq us.toArray } (.lst (ns.map V.int))) else none
    have at0 : H0 a = some (.frz { cls := .type "list", data := .seq us.toArray } (.lst (ns.map V.int))) := if_pos rfl
    have off : ∀ {b : Addr}, b ≠ a → H0 b = none := fun z => if_neg z
    refine go H0 (fun b => ?_) (say H0 (.inl (.inr ⟨_, at0⟩))) (fun b u z => ?_) (fun b z => ?_) fun _ => lk
    · rcases Classical.em (b = a) with z | z
      · subst z; exact .inr ⟨_, _, at0⟩
      · exact .inl (off z)
    · rcases Classical.em (b = a) with eb | eb
      · subst eb
        rw [at0] at z
        cases z
        exact ⟨cell, by rw [List.length_map]; exact size, us, _, vals, cell⟩
      · rw [off eb] at z
        cases z
    · exact Classical.byContradiction fun eb => z (off eb)
  · have e := inK a o lk
    rw [cell] at e
    cases e
    exact go (fun _ => none) (fun _ => .inl rfl) (say _ (.inr ⟨_, us.toArray, _, lk, rfl, rfl, rfl, by rw [List.size_toArray, same]; exact size, by simpa using vals⟩)) (fun _ u z => nomatch (show (none : Option HO) = some u from z)) (fun _ z => (z rfl).elim) fun z => (z rfl).elim
end
def lawS (n : Nat) : SemF := fun args Q E => ∃ ns : List Int, args = [.fz (.scr ns)] ∧ ns.length ≤ n ∧ Q (.fz (.bl true)) []
theorem say_law {K : PySem.W.Frag} {H : Hp} {a : Addr} {ns : List Int} {n : Nat} (hn : ns.length ≤ n) (h : SqL K H a (ns.map V.int)) : spQ K 1 [] (lawS n) [.ref a] H (fun v _ => v = .bl true) fun _ _ _ => False := by
  have eB : Bs H (fun _ => Lab.base) = H := by funext b; unfold Bs; exact if_pos rfl
  refine ⟨rfl, fun _ => .base, [.fz (.scr ns)], fun t _ => t = .fz (.bl true), fun _ _ => False, rfl, fun i t e => ?_, ⟨ns, rfl, hn, rfl⟩, fun v t H' ow' outs _ r _ _ q => ?_, fun _ _ _ _ _ _ _ _ _ z => z.elim⟩
  · rcases i with _ | i
    · cases e
      exact ⟨_, rfl, Tq.fz_.mpr (.scr (by rw [eB]; exact h))⟩
    · simp at e
  · subst q
    have e := Tq.rd r
    cases e
    rfl
theorem walk_ofG {l : PySem.W.OpenLaw} {n k : Nat} {q : Program} {loose : List Str} {XP : (Str → Option Value) → Heap → Prop} {YP : World → Heap → Prop} {d : DefRec} {K : Params → PySem.W.Frag} {x : Str}
    (most : l.most = some n) (small : n ≤ sizeLine) (plain : d.params.defaults = []) (room : Room k callerA) (inY : ∀ (w : World) (h : Heap), YP w h → (K w.params).In h)
    (F : ∀ (w : World) (mg : Str → Option Value) (h : Heap), (K w.params).In h → h.Ns mainGlobals mg → ∀ base : Heap, Callee l.prog w (K w.params) mg base k d.name [x] [] (lawS n)) :
    PySem.W.WalkO q loose XP YP l.row.toRowW d [] (fun f vs => PySem.call f vs) := by
  refine Att.attach_call most plain fun w s0 st mg mb fa o pm cd doc a us ns G Y _ _ _ main cell nums many gens => ?_
  have inK := inY w _ Y
  refine end_call inK G.T.g G.T.b G.T.builtins G.T.nolimit gens cell nums (Nat.le_trans many small) room (p1 := x) (sp := spQ (K w.params) 1 [] (lawS n)) (fun base => ?_) fun H h => say_law many h
  obtain ⟨f, fd, fn, e, _, bnd⟩ := F w mg _ inK G.T.g base
  have ef := main.symm.trans e
  cases ef
  exact ⟨fd, fn, bnd⟩
end QV

set_option Elab.async false
set_option linter.all false
set_option maxRecDepth 100000
set_option maxHeartbeats 2000000
namespace QV
open PySem L2
section
variable {X : Cx} {W : WX} {M : List Nat} {e : Expr} {x : Str} {root : Option Nat} {pa : SemP} {q : SemE} {pos p p2 : Pos}
end
section
variable {X : Cx} {W : WX} {M : List Nat} {e : Expr} {y : Str} {root : Option Nat} {pa : SemP} {q : SemE} {pos p p2 : Pos} {T' : String} {g : D → Option Bool}
end
def sortIG (t : T) (Q : T → Prop) : Prop := ∃ ns : List Int, shL t = some (ns.map .int) ∧ ∀ ms : List Int, ms.Perm ns → ms.Pairwise (· ≤ ·) → Q (.ow .lst (ms.map .int))
section
variable {K : PySem.W.Frag}
theorem g_sortI : Op1 K (fun x H Q => rSortedI K [x] H Q) sortIG := by
  intro H ow n x t Q Qv rx ⟨ns, e, h⟩ k
  obtain ⟨a, vs, rfl, c, z, r⟩ := rx.lst e
  have ev := ints_of r
  subst ev
  refine ⟨a, ns, rfl, .inl (.inl c), fun ms p hp hs hz => ?_⟩
  exact k _ _ _ (Ow.put ow p (.tm n)) (Stp.new hz) (Tq.newL hz (by rw [List.length_map, hp.length_eq]; rw [List.length_map] at z; exact z) (of_ints ms)) (h ms hp hs)
end
section
variable {X : Cx} {W : WX} {M : List Nat} {e : Expr} {root : Option Nat} {pa : SemP} {pos p : Pos}
theorem q_sortI (hg : Gl X "sorted") (hm : X.mg "sorted" = none) (ha : QP X W M root e pa) (he : starEach [e] X.env = (false, eval e X.env) :: starEach [] X.env := by rfl) (hpl : (backTo pos (starEach [] X.env)).any (·.1) = false := by rfl) : QE X W M (.Call (.Name "sorted" p) [e] [] pos) (s1 pa sortIG) :=
  q_b1 cr_sortedI g_sortI hg hm bt_sorted ha (by decide) (by decide) he hpl
theorem q_lrng {q : SemE} {p2 p3 : Pos} (hc : X.calm = true) (hg : Gl X "list") (hm : X.mg "list" = none) (hg2 : Gl X "range") (hm2 : X.mg "range" = none) (ha : QE X W M e q) (na : starEach [e] X.env = (false, eval e X.env) :: starEach [] X.env := by rfl)
    (na2 : starEach [.Call (.Name "range" p2) [e] [] p3] X.env = (false, eval (.Call (.Name "range" p2) [e] [] p3) X.env) :: starEach [] X.env := by rfl) : QE X W M (.Call (.Name "list" p) [.Call (.Name "range" p2) [e] [] p3] [] pos)
      (fun env Q E => q env (fun t env1 => match t with | .fz (.int m) => 0 ≤ m ∧ m ≤ 16777216 ∧ Q (.ow .lst (rngD 0 m.toNat)) env1 | _ => False) E) :=
  ⟨PE_imp (pe_listRg hc hg hm (prg_1 hg2 hm2 ha.run na) na2) fun σ H Qv ⟨n, ow, env, Q, E, s, hq, k, x⟩ => ⟨n, ow, env, _, E, s, hq, fun v t H' ow' env' y1 s' o r z => by
    split at z
    · rename_i m
      obtain ⟨z1, z2, z⟩ := z
      have ev := Tq.rd r
      cases ev
      refine ⟨m, rfl, RgOk.of_le (by omega) z2 (by omega) z1, fun p hp => ?_⟩
      have e1 : rgV 0 m = (List.range m.toNat).map fun i => V.int (0 + (i : Nat)) := by unfold rgV; rw [Int.sub_zero]
      rw [e1]
      have rr : Rps X.K (Bs H' ow') ((List.range m.toNat).map fun i => V.int (0 + (i : Nat))) (rngD 0 m.toNat) := by
        unfold rngD
        have := of_ints (K := X.K) (B := Bs H' ow') ((List.range m.toNat).map fun i => (0 + (i : Nat) : Int))
        rw [List.map_map, List.map_map] at this
        exact this
      exact k _ _ _ (Ow.put ow' p (.tm n)) env' (y1.trans (Stp.new hp) (fun _ h => h) nilsub (Nat.le_refl _) (Nat.le_refl _)) (s'.stp0 (n := n) (Stp.new hp)) o (Tq.newL hp (by rw [List.length_map, List.length_range, sizeLine_eq]; omega) rr) z
    · exact z.elim, x⟩⟩
end
section
variable {X : Cx} {W : WX} {M : List Nat} {e : Expr} {x : Str} {px : Pos}
end
end QV

set_option Elab.async false
set_option linter.all false
set_option maxRecDepth 100000
set_option maxHeartbeats 2000000
namespace QV
open PySem L2
structure Pr (io : Nat) (H : Hp) (ow : Ow) (H' : Hp) (ow' : Ow) : Prop where
  go : ∀ a o, H a = some o → (ow a = .fr ∨ ow a = .base ∨ ow a = .sl io) → H' a = some o ∧ ow' a = ow a
  tp : ∀ a vs, H a = some (.tup vs) → H' a = some (.tup vs)
instance {io : Nat} {H : Hp} {ow : Ow} {H' : Hp} {ow' : Ow} : CoeFun (Pr io H ow H' ow') (fun _ => ∀ a o, H a = some o → (ow a = .fr ∨ ow a = .base ∨ ow a = .sl io) → H' a = some o ∧ ow' a = ow a) := ⟨Pr.go⟩
theorem Pr.of {io n : Nat} {M : List Nat} {H H' : Hp} {ow ow' : Ow} (h : io ∉ M) (x : Stp M n H ow H' ow') : Pr io H ow H' ow' := ⟨fun a o e q => x a o e (by rcases q with q | q | q <;> rw [q] <;> first | trivial | exact h), x.tp⟩
theorem Pr.bs {io : Nat} {H H' : Hp} {ow ow' : Ow} (x : Pr io H ow H' ow') : Same (Bs H ow) (Bs H' ow') := bs_map (fun a o e q => by
  obtain ⟨h1, h2⟩ := x a o e (.inr (.inl q))
  exact ⟨h1, h2.trans q⟩) x.tp
structure ItM (io : Nat) (K : PySem.W.Frag) (H : Hp) (ow : Ow) (J : It) (ds : List D) : Prop where
  go : ∀ (i : Nat) (d : D) (H' : Hp) (ow' : Ow), Pr io H ow H' ow' → ds[i]? = some d → J.go i H'
  yld : ∀ (i : Nat) (d : D) (H' : Hp) (ow' : Ow) (x : V) (H2 : Hp), Pr io H ow H' ow' → ds[i]? = some d → J.yld i H' x H2 → ∃ ow2, Ext H' ow' H2 ow2 ∧ Rp K (Bs H2 ow2) x d
  stop : ∀ (H' : Hp) (ow' : Ow), Pr io H ow H' ow' → J.stop ds.length H'
  sz : ds.length ≤ sizeLine
def tIo (K : PySem.W.Frag) (W : WX) (M : List Nat) (io : Nat) (q : SemI) : TI := fun σ H R => ∃ (n : Nat) (ow : Ow) (env : Env) (Q : List D → Env → Prop) (E : XQ), StOk K H ow σ env ∧ q env Q E ∧
  (∀ (J : It) (ds : List D) (H' : Hp) (ow' : Ow) (env' : Env), Stp M n H ow H' ow' → StOk K H' ow' σ env' → Out M env env' → ItM io K H' ow' J ds → Q ds env' → R J H') ∧ Xk K W M σ H n ow env E
structure QIo (X : Cx) (W : WX) (M : List Nat) (io : Nat) (tg e : Expr) (q : SemI) : Prop where
  run : PI X tg e (tIo X.K W M io q)
theorem itm_list {K : PySem.W.Frag} {H : Hp} {ow : Ow} {io : Nat} {a : Addr} {vs : List V} {ds : List D} (c : H a = some (.lst vs)) (hz : vs.length ≤ sizeLine) (r : Rps K (Bs H ow) vs ds) (eo : ow a = .sl io) : ItM io K H ow (Itl K a) ds := by
  have st : ∀ {H' : Hp} {ow' : Ow}, Pr io H ow H' ow' → SqL K H' a vs := fun x => .inl (.inl (x a _ c (.inr (.inr eo))).1)
  refine ⟨fun i d H' ow' x e => ?_, fun i d H' ow' y H2 x e q => ?_, fun H' ow' x => ⟨vs, st x, Nat.le_of_eq r.len⟩, by rw [← r.len]; exact hz⟩
  · obtain ⟨v, e1, _⟩ := r.get e
    exact ⟨vs, v, st x, e1⟩
  · obtain ⟨rfl, hy⟩ := q
    obtain ⟨v, e1, r1⟩ := r.get e
    have ev := hy vs (st x)
    rw [e1] at ev
    cases ev
    exact ⟨ow', Ext.refl, r1.mono x.bs⟩
theorem itm_listF {K : PySem.W.Frag} {H : Hp} {ow : Ow} {io : Nat} {a : Addr} {vs : List V} {ds : List D} (c : SqL K (Bs H ow) a vs) (hz : vs.length ≤ sizeLine) (r : Rps K (Bs H ow) vs ds) : ItM io K H ow (Itl K a) ds := by
  have st : ∀ {H' : Hp} {ow' : Ow}, Pr io H ow H' ow' → SqL K H' a vs := fun x => (bs_same _ _).seq (x.bs.seq c)
  refine ⟨fun i d H' ow' x e => ?_, fun i d H' ow' y H2 x e q => ?_, fun H' ow' x => ⟨vs, st x, Nat.le_of_eq r.len⟩, by rw [← r.len]; exact hz⟩
  · obtain ⟨v, e1, _⟩ := r.get e
    exact ⟨vs, v, st x, e1⟩
  · obtain ⟨rfl, hy⟩ := q
    obtain ⟨v, e1, r1⟩ := r.get e
    have ev := hy vs (st x)
    rw [e1] at ev
    cases ev
    exact ⟨ow', Ext.refl, r1.mono x.bs⟩
def iOwn (i : Nat) : SemI := fun env Q _ => match env[i]? with
  | some (some (.ow .lst ds)) => Q ds env
  | some (some (.fz (.nd .lst ds))) => Q ds env
  | _ => False
theorem i_own {X : Cx} {W : WX} {tg : Expr} {x : Str} {px : Pos} (i : Nat) (hN : X.N[i]? = some x := by rfl) (hv : Vis X.env.scope x := by first | exact Or.inl rfl | exact Or.inr (Or.inl rfl) | exact Or.inr (Or.inr rfl)) (hd : (x == ("__debug__" : Str)) = false := by decide)
    (hcd : (x == ("__classdict__" : Str)) = false := by decide) : QIo X W [] i tg (.Name x px) (iOwn i) :=
  ⟨PI_imp (pi_list (pe_var (i := i) hN hv hd hcd)) fun σ H R ⟨n, ow, env, Q, E, s, hq, k, xx⟩ => by
    unfold iOwn at hq
    split at hq
    · rename_i ds e
      obtain ⟨a, vs, e1, c, hz, r, eo⟩ := own_at s e
      exact ⟨.ref a, e1, a, rfl, ⟨vs, .inl (.inl c)⟩, k _ _ H ow env Stp.refl s Out.refl (itm_list c hz r eo) hq⟩
    · rename_i ds e
      obtain ⟨v, e1, r0⟩ := s.at_ i _ e
      obtain ⟨a, vs, rfl, c, hz, r⟩ := fz_lst r0
      exact ⟨.ref a, e1, a, rfl, ⟨vs, (bs_same _ _).seq c⟩, k _ _ H ow env Stp.refl s Out.refl (itm_listF c hz r) hq⟩
    · exact hq.elim⟩
theorem lcO_run {io : Nat} {K : PySem.W.Frag} {W : WX} {Mi Mt Me SS vs : List Nat} {qi : SemI} {g : SemG} {t : SemT} {q : SemE} (hso : io ∉ Mi ++ (Mt ++ Me)) (hs : ∀ i ∈ SS, i ∈ vs) (hv : ∀ i ∈ vs, i ∉ Mt ++ Me) {σ : L2.St} {H : Hp} {Qv : VK} (h : tQ K W (Mi ++ (Mt ++ Me)) (sLc qi g t q vs) σ H Qv) :
    tLc (tIo K W Mi io qi) (tG K SS g) (tT K W0 Mt t) (tQ K W0 Me q) vs σ H Qv := by
  obtain ⟨n, ow, env, Q, E, s, hq, k, x⟩ := h
  refine ⟨n, ow, env, _, E, s, hq, fun J ds H1 ow1 env1 y1 s1 o1 J1 hI => ?_, fun r d H' ow' env' y s' o => x r d H' ow' env' (y.mono subl (Nat.le_refl _)) s' (o.mono subl)⟩
  obtain ⟨I, i0, it, ie⟩ := hI.ex
  intro D hD
  have key : ∀ {H' : Hp} {ow' : Ow}, Stp (Mi ++ (Mt ++ Me)) n H1 ow1 H' ow' → Stp (Mi ++ (Mt ++ Me)) n H ow H' ow' := fun y => y1.trans y subl (fun _ h => h) (Nat.le_refl _) (Nat.le_refl _)
  refine ⟨fun j m H' => m = ds.length - j ∧ j ≤ ds.length ∧ ∃ ow' env' acc us, Stp (Mi ++ (Mt ++ Me)) n H1 ow1 H' ow' ∧ StOk K H' ow' σ env' ∧ Out (Mi ++ (Mt ++ Me)) env1 env' ∧ H' D = some (.lst us) ∧ ow' D = .tm n ∧ Rps K (Bs H' ow') us acc ∧ us.length ≤ j ∧ I j acc env',
    ⟨ds.length, by simp, Nat.zero_le _, Ow.put ow1 D (.tm n), env1, [], [], Stp.new hD, s1.stp0 (n := 0) (Stp.new hD), Out.refl, upd_same, put_same, .nil, Nat.le_refl _, i0⟩, ?_⟩
  rintro j m H' ⟨rfl, hj, ow', env', acc, us, y', s', o', hDl, hDo, hr, hl, ij⟩
  by_cases hlt : j < ds.length
  · have hd : ds[j]? = some ds[j] := by simp [hlt]
    refine .inr ⟨J1.go j _ H' ow' (Pr.of hso y') hd, fun H5 => ∃ ow5 env5 acc5 us5, Stp (Mi ++ (Mt ++ Me)) n H1 ow1 H5 ow5 ∧ StOk K H5 ow5 σ env5 ∧ Out (Mi ++ (Mt ++ Me)) env1 env5 ∧ H5 D = some (.lst us5) ∧ ow5 D = .tm n ∧ Rps K (Bs H5 ow5) us5 acc5 ∧ us5.length ≤ j + 1 ∧ I (j + 1) acc5 env5,
      fun H5 ⟨ow5, env5, acc5, us5, q5⟩ => ⟨ds.length - (j + 1), by omega, rfl, hlt, ow5, env5, acc5, us5, q5⟩, fun xv H2 yl => ?_⟩
    obtain ⟨ow2, ex, rx⟩ := J1.yld j _ H' ow' xv H2 (Pr.of hso y') hd yl
    have y2 : Stp (Mi ++ (Mt ++ Me)) n H' ow' H2 ow2 := ex.stp
    have s2 : StOk K H2 ow2 σ env' := s'.stp0 (n := 0) ex.stp
    refine ⟨ow2, wipeE env' vs, _, _, s2.wipe, rx, it j _ acc env' hd ij, fun σ3 env3 tc oT s3 z3 => ?_⟩
    refine ⟨wipe_tch tc hs, n + 1, ow2, env3, _, noX, s3, z3, fun b H3 ow3 env4 y3 s4 o4 z4 => ?_, xk0⟩
    have hD2 := (ex D _ hDl)
    have hD3 := y3 D _ hD2.1 (by rw [hD2.2, hDo]; exact Nat.lt_succ_self n)
    have hDo3 : ow3 D = .tm n := by rw [hD3.2, hD2.2, hDo]
    have same3 : Same (Bs H' ow') (Bs H3 ow3) := fun a o e => y3.bs a o (y2.bs a o e)
    have y23 : Stp (Mi ++ (Mt ++ Me)) n H' ow' H3 ow3 := y2.trans y3 (fun _ h => h) mem3.2.1 (Nat.le_refl _) (Nat.le_succ _)
    have outs : ∀ {e5 : Env} {H5 : Hp} {ow5 : Ow}, Out (Mt ++ Me) env3 e5 → StOk K H5 ow5 σ3 e5 → Out (Mi ++ (Mt ++ Me)) env1 (rstE env' vs e5) := fun {e5 H5 ow5} oo ss => by
      refine ⟨?_, fun i hi => ?_⟩
      · rw [rstE_len, ss.len, tc.len, wipe_length, ← s'.len, o'.len]
      · rw [← o'.eq i hi]
        by_cases hiv : i ∈ vs
        · by_cases hil : i < env'.length
          · have : ∀ {vs : List Nat}, i ∈ vs → (rstE env' vs e5)[i]? = some ((env'[i]?).getD none) := fun {vs} hm => by
              induction vs with
              | nil => simp at hm
              | cons v vs ih =>
                unfold rstE
                by_cases hv2 : v = i
                · subst hv2
                  exact List.getElem?_set_self (by rw [rstE_len, ss.len, tc.len, wipe_length, ← s'.len]; exact hil)
                · rw [List.getElem?_set_ne hv2]
                  exact ih ((List.mem_cons.mp hm).resolve_left fun z => hv2 z.symm)
            rw [this hiv]
            have e : env'[i]? = some env'[i] := by simp [hil]
            rw [e]
            rfl
          · rw [List.getElem?_eq_none (by rw [rstE_len, ss.len, tc.len, wipe_length, ← s'.len]; omega), List.getElem?_eq_none (by omega)]
        · rw [rstE_out hiv, oo.eq i fun z => hi (subr i z)]
          rw [oT.eq i fun z => hiv (hs i z)]
          exact wipeE_out hiv
    have carV : ∀ {H5 : Hp} {ow5 : Ow}, Stp (Mt ++ Me) (n + 1) H2 ow2 H5 ow5 → ∀ i ∈ vs, Car H2 H5 ow2 ow5 (.sl i) (.sl i) := fun {H5 ow5} yy i hi => yy.car (l := .sl i) (hv i hi)
    cases b with
    | false =>
      refine iteF ?_
      have y3' : Stp (Mt ++ Me) (n + 1) H2 ow2 H3 ow3 := y3.mono subl (Nat.le_refl _)
      exact ⟨ow3, _, acc, us, y'.trans y23 (fun _ h => h) (fun _ h => h) (Nat.le_refl _) (Nat.le_refl _), s2.rst s4 tc hs (carV y3'), outs (o4.mono subl) s4, hD3.1, hDo3, hr.mono same3, Nat.le_succ_of_le hl, z4.2 rfl⟩
    | true =>
      refine iteT ?_
      refine ⟨n + 1, ow3, env4, _, noX, s4, z4.1 rfl, fun v w H4 ow4 env5 y4 s5 o5 r4 z5 => ?_, xk0⟩
      split at z5
      · rename_i e
        have rv := Tq.fz_.mp r4
        have hD4 := y4 D _ hD3.1 (by rw [hDo3]; exact Nat.lt_succ_self n)
        have hDo4 : ow4 D = .tm n := by rw [hD4.2, hDo3]
        have same4 : Same (Bs H' ow') (Bs H4 ow4) := fun a o e => y4.bs a o (same3 a o e)
        have yu : Stp (Mt ++ Me) n H4 ow4 (upd H4 D (.lst (us ++ [v]))) ow4 := ⟨fun a o ea pa => by
          have ne : a ≠ D := fun z => by
            rw [z, hDo4] at pa
            exact absurd pa (Nat.lt_irrefl n)
          exact ⟨by rw [upd_ne ne]; exact ea, rfl⟩, fun a ws ea => by
          have ne : a ≠ D := fun z => by rw [z, hD4.1] at ea; cases ea
          rw [upd_ne ne]; exact ea⟩
        have y34 : Stp (Mt ++ Me) (n + 1) H2 ow2 H4 ow4 := y3.trans y4 subl subr (Nat.le_refl _) (Nat.le_refl _)
        have y25 : Stp (Mt ++ Me) n H2 ow2 (upd H4 D (.lst (us ++ [v]))) ow4 := y34.trans yu (fun _ h => h) (fun _ h => h) (Nat.le_succ _) (Nat.le_refl _)
        have s5u : StOk K (upd H4 D (.lst (us ++ [v]))) ow4 σ3 env5 := ⟨s5.len, fun i t e => by
          obtain ⟨w, e1, r⟩ := s5.at_ i t e
          refine ⟨w, e1, Car.tq ⟨yu.bs, fun a o ea eo => ?_⟩ r⟩
          have ne : a ≠ D := fun z => by
            rw [z, hDo4] at eo
            cases eo
          exact ⟨by rw [upd_ne ne]; exact ea, eo⟩⟩
        have carU : ∀ i ∈ vs, Car H2 (upd H4 D (.lst (us ++ [v]))) ow2 ow4 (.sl i) (.sl i) := fun i hi => ⟨y25.bs, fun a o ea eo => by
          obtain ⟨e1, e2⟩ := y34 a o ea (by rw [eo]; exact hv i hi)
          have ne : a ≠ D := fun z => by
            rw [z, hDo4] at e2
            rw [z] at eo
            rw [eo] at e2
            cases e2
          exact ⟨by rw [upd_ne ne]; exact e1, e2.trans eo⟩⟩
        have yall : Stp (Mi ++ (Mt ++ Me)) n H1 ow1 (upd H4 D (.lst (us ++ [v]))) ow4 := (y'.trans y2 (fun _ h => h) (fun _ h => h) (Nat.le_refl _) (Nat.le_refl _)).trans y25 (fun _ h => h) subr (Nat.le_refl _) (Nat.le_refl _)
        refine ⟨us, hD4.1, Nat.lt_of_le_of_lt hl (Nat.lt_of_lt_of_le hlt J1.sz), ow4, _, acc ++ [e], us ++ [v], yall, s2.rst s5u tc hs carU, outs (o4.trans o5 subl subr) s5, upd_same, hDo4, ?_, by rw [List.length_append]; simpa using hl, z5⟩
        exact (hr.mono fun a o e => yu.bs a o (same4 a o e)).app (.cons (rv.mono yu.bs) .nil)
      · exact z5.elim
  · have e : j = ds.length := by omega
    subst e
    exact .inl ⟨J1.stop H' ow' (Pr.of hso y'), k (.ref D) (.ow .lst acc) H' ow' env' (key y') s' (o1.trans o' subl (fun _ h => h)) ⟨_, .ow (dx := D) ⟨hDl, Nat.le_trans hl J1.sz, trivial⟩ (fun b fb => by
      have eb : b = D := fb
      rw [eb]; exact hDo) hr⟩ (ie acc env' ij)⟩
section
variable {X : Cx} {W : WX} {io : Nat} {Mi Mt Me M IO SS : List Nat} {elt tg iter e : Expr} {ifs : List Expr} {scope : Scope} {own : List (Str × Nat)} {pos spos py : Pos} {qi : SemI} {g : SemG} {t : SemT} {q : SemE} {y : Str} {i : Nat}
theorem q_lcO (hc : X.calm = true) (hN : X.N.Nodup) (hi : QIo X W Mi io tg iter qi) (ok : BlkOk X.N X.env.scope scope own)
    (hg : ∀ (s : Shared) (H : Hp) (C : Addr) (cl : List (Str × Addr)) (fp : List Addr), QG (X.blk s H scope (compEnvC scope cl C X.env) fp) SS tg g) (ht : ∀ (s : Shared) (H : Hp) (C : Addr) (cl : List (Str × Addr)) (fp : List Addr), QTs (X.blk s H scope (compEnvC scope cl C X.env) fp) W0 Mt ifs t)
    (he : ∀ (s : Shared) (H : Hp) (C : Addr) (cl : List (Str × Addr)) (fp : List Addr), QE (X.blk s H scope (compEnvC scope cl C X.env) fp) W0 Me elt q) (hso : io ∉ Mi ++ (Mt ++ Me) := by decide) (hs : ∀ i ∈ SS, i ∈ own.map (·.2) := by decide) (hv : ∀ i ∈ own.map (·.2), i ∉ Mt ++ Me := by decide)
    (hf : ∀ x, foldedSetIterable iter X.env x = pure x := by intro _; rfl) : QE X W (Mi ++ (Mt ++ Me)) (.ListComp elt [⟨tg, iter, ifs, 0⟩] scope pos) (sLc qi g t q (own.map (·.2))) :=
  ⟨PE_imp (pe_lc hc hN hi.run ok (fun s H C cl fp => (hg s H C cl fp).run) (fun s H C cl fp => (ht s H C cl fp).run) (fun s H C cl fp => (he s H C cl fp).run) hf) fun _ _ _ h => lcO_run hso hs hv h⟩
end
end QV

set_option Elab.async false
set_option linter.all false
set_option maxRecDepth 100000
set_option maxHeartbeats 2000000
namespace QV
open PySem L2
mutual
def shrt : D → Bool
  | .non => true
  | .bl _ => true
  | .int i => decide (i.natAbs < 10000000000000000000000000000000000000000)
  | .str x => x.cps.toList.all fun c => decide (c < 16 ^ 8)
  | .nd .lst ds => shrts ds
  | .nd .tup ds => shrts ds
  | _ => true
def shrts : List D → Bool
  | [] => true
  | d :: ds => shrt d && shrts ds
end
mutual
def szD : D → Nat
  | .int _ => 140
  | .str x => x.cps.size
  | .nd .lst ds => szDs ds
  | .nd .tup ds => szDs ds
  | _ => 0
def szDs : List D → Nat
  | [] => 0
  | d :: ds => szD d + 1 + szDs ds
end
theorem log2_40 {i : Int} (h : i.natAbs < 10000000000000000000000000000000000000000) : i.natAbs.log2 < 133 := by
  rcases Nat.eq_zero_or_pos i.natAbs with z | z
  · rw [z]; decide
  · exact (Nat.log2_lt (by omega)).mpr (by omega)
mutual
theorem shrt_ok : ∀ d : D, shrt d = true → d.py.leavesShort 41 = true ∧ d.py.showable = true ∧ d.py.weight ≤ szD d
  | .non, _ => ⟨rfl, rfl, by simp [D.py, PyData.weight]⟩
  | .bl _, _ => ⟨rfl, rfl, by simp [D.py, PyData.weight]⟩
  | .int i, h => by
    have h' : i.natAbs < 10000000000000000000000000000000000000000 := by simpa [shrt] using h
    refine ⟨?_, ?_, ?_⟩
    · simp only [D.py, PyData.leavesShort, decide_eq_true_eq]
      have e := int_text_length_le10 (k := 40) (by decide) (show i.natAbs < 10 ^ 40 by omega)
      have e2 : (PyData.int i).shown.length = (toString i).length := by
        rw [PyData.shown_int]
        exact ofString_length _
      rw [e2]
      exact e
    · simp only [D.py, PyData.showable, decide_eq_true_eq]
      have := log2_40 h'
      omega
    · simp only [D.py, PyData.weight, szD]
      have := log2_40 h'
      split <;> omega
  | .str x, h => by
    refine ⟨by simpa [D.py, PyData.leavesShort, shrt] using h, rfl, by simp [D.py, PyData.weight, szD]⟩
  | .scr _, _ => ⟨rfl, rfl, by simp [D.py, PyData.weight]⟩
  | .exc _ _ _ _ _, _ => ⟨rfl, rfl, by simp [D.py, PyData.weight]⟩
  | .nd .lst ds, h => by
    obtain ⟨a, b, c⟩ := shrts_ok ds (by simpa [shrt] using h)
    exact ⟨by simpa [D.py, PyData.leavesShort] using a, by simpa [D.py, PyData.showable] using b, by simpa [D.py, PyData.weight, szD] using c⟩
  | .nd .tup ds, h => by
    obtain ⟨a, b, c⟩ := shrts_ok ds (by simpa [shrt] using h)
    exact ⟨by simpa [D.py, PyData.leavesShort] using a, by simpa [D.py, PyData.showable] using b, by simpa [D.py, PyData.weight, szD] using c⟩
  | .nd (.dK _) ds, _ => ⟨rfl, rfl, by simp [D.py, PyData.weight]⟩
  | .nd (.dT _) ds, _ => ⟨rfl, rfl, by simp [D.py, PyData.weight]⟩
  | .nd (.lkT _ _) ds, _ => ⟨rfl, rfl, by simp [D.py, PyData.weight]⟩
  | .nd (.lsA _) ds, _ => ⟨rfl, rfl, by simp [D.py, PyData.weight]⟩
  | .nd (.ins _ _) ds, _ => ⟨rfl, rfl, by simp [D.py, PyData.weight]⟩
theorem shrts_ok : ∀ ds : List D, shrts ds = true → PyData.leavesShortAll 41 (Dspy ds) = true ∧ PyData.showableAll (Dspy ds) = true ∧ PyData.weightAll (Dspy ds) ≤ szDs ds
  | [], _ => ⟨rfl, rfl, by simp [Dspy, PyData.weightAll]⟩
  | d :: ds, h => by
    have h' : shrt d = true ∧ shrts ds = true := by simpa [shrts] using h
    obtain ⟨a, b, c⟩ := shrt_ok d h'.1
    obtain ⟨a', b', c'⟩ := shrts_ok ds h'.2
    exact ⟨by simp [Dspy, PyData.leavesShortAll, a, a'], by simp [Dspy, PyData.showableAll, b, b'], by simp only [Dspy, PyData.weightAll, szDs]; omega⟩
end
theorem shw_of {d : D} (h : shrt d = true) (hz : szD d ≤ 262144) : shwD d := by
  obtain ⟨a, b, c⟩ := shrt_ok d h
  refine ⟨b, Nat.le_trans (PyData.shown_le 41 (by decide) _ a) ?_⟩
  have h1 : (41 + 2) * d.py.weight + 41 ≤ 43 * 262144 + 41 := by omega
  exact Nat.le_trans h1 (by rw [sizeLine_eq]; decide)
theorem shrts_all : ∀ {ds : List D}, (∀ d, d ∈ ds → shrt d = true) → shrts ds = true
  | [], _ => rfl
  | d :: ds, h => by simp [shrts, h d (by simp), shrts_all (ds := ds) fun e he => h e (by simp [he])]
theorem szDs_le {k : Nat} : ∀ {ds : List D}, (∀ d, d ∈ ds → szD d ≤ k) → szDs ds ≤ ds.length * (k + 1)
  | [], _ => by simp [szDs]
  | d :: ds, h => by
    have h1 := h d (by simp)
    have h2 := szDs_le (ds := ds) fun e he => h e (by simp [he])
    simp only [szDs, List.length_cons, Nat.succ_mul]
    omega
theorem pls_all {n : Nat} : ∀ {ds : List D}, (∀ d, d ∈ ds → d.pl n = true) → Dspl n ds = true
  | [], _ => rfl
  | d :: ds, h => by simp [Dspl, h d (by simp), pls_all (ds := ds) fun e he => h e (by simp [he])]
theorem pl_lst {n : Nat} {ds : List D} (h : ∀ d, d ∈ ds → d.pl n = true) : (D.nd .lst ds).pl (n + 1) = true := by rw [D.pl]; exact pls_all h
theorem eq_nil {ds : List D} : eqD (.nd .lst ds) (.nd .lst []) = ds.isEmpty := by
  cases ds <;> simp [eqD, eqDs]
end QV

set_option Elab.async false
set_option linter.all false
set_option maxRecDepth 100000
set_option maxHeartbeats 2000000
namespace QV
open PySem PySem.Spec PyProof.Rows L2
section
variable {X : Cx} {e : Expr} {es : List Expr} {ta : TA} {b : Str} {S : Addr} {p1 p2 pos : Pos}
end
section
variable {X : Cx}
end
def spIni (K : PySem.W.Frag) : Sp := fun vs H Q _ => ∃ a C, vs = [.ref a] ∧ OexC K C ∧ H a = some (exo a C none) ∧ Q .non H
structure Bare (X : Cx) (k : Nat) (x : Str) (C : Addr) : Prop where
  mg : X.mg x = some (.ref C)
  ex : ∃ fI fd, OexC X.K C ∧ PySem.W.findIn X.K (.ref C) "__init__" = some (some (.ref fI)) ∧ PySem.W.typeIn X.K (.ref fI) = some (.type "function") ∧ FnOk X.prog X.w X.K X.mg X.base (L2.CX X.prog X.w) k fI fd ["self"] (spIni X.K) ∧ Binds X.K fd ["self"] []
def spIni1 (K : PySem.W.Frag) (f : Str) : Sp := fun vs H Q _ => ∃ a C y, vs = [.ref a, y] ∧ OexC K C ∧ H a = some (exo a C none) ∧ PySem.W.findIn K (.ref C) f = some none ∧ ∀ dx, H dx = none → dx ≠ a → Q .non (upd (upd H dx (exd dx [(f, y)])) a (exo a C (some dx)))
structure Bare1 (X : Cx) (k : Nat) (x : Str) (C : Addr) (f : Str) (ps : List Str) : Prop where
  mg : X.mg x = some (.ref C)
  no : PySem.W.findIn X.K (.ref C) f = some none
  ex : ∃ fI fd, OexC X.K C ∧ PySem.W.findIn X.K (.ref C) "__init__" = some (some (.ref fI)) ∧ PySem.W.typeIn X.K (.ref fI) = some (.type "function") ∧ FnOk X.prog X.w X.K X.mg X.base (L2.CX X.prog X.w) k fI fd ps (spIni1 X.K f) ∧ Binds X.K fd ps []
end QV

set_option Elab.async false
set_option linter.all false
set_option maxRecDepth 100000
set_option maxHeartbeats 2000000
namespace PySem.W
open PySem PySem.Spec PySem.Calls PyProof.Rows
section
variable {prog : Program} {w : World} {A : Around} {E : Value → Shared → Prop} {s : Shared} {K : Frag} {x D : Addr} {ox : Obj} {od : Option Obj}
end
end PySem.W
namespace QV
open PySem PySem.Spec PyProof.Rows L2

structure Xt (K : PySem.W.Frag) (mg : Str → Option Value) (ca : Str → Addr) (ns ts cs fs : List Str) (isa : Str → Str → Bool) : Prop where
  mg : ∀ x, x ∈ ts ∨ x ∈ cs → mg x = some (.ref (ca x))
  exc : ∀ x, x ∈ ns → ExcC K (ca x)
  kit : ∀ x, x ∈ ns → ∀ y, y ∈ ts → PySem.W.kitOne K (.ref (ca x)) (.ref (ca y)) = some (isa x y)
  kitV : ∀ x, x ∈ ns → PySem.W.kitOne K (.ref (ca x)) (.type "ValueError") = some true
  exm : ∀ x, x ∈ ns → ∀ y, y ∈ cs → PySem.W.exmOne K (.ref (ca x)) (.ref (ca y)) = some (isa x y)
  no : ∀ x, x ∈ ns → ∀ f, f ∈ fs → PySem.W.findIn K (.ref (ca x)) f = some none
def Pn (X : Cx) (a C : Addr) (d : Option Addr) : Prop := ∃ oe : Obj, (a, oe) ∈ X.pn ∧ Zc (.ref C) d oe ∧ ∃ vs, oe.data = .fields vs
section
variable {X : Cx} {W : WX} {M : List Nat} {a C : Addr} {d : Option Addr} {e ec : Expr} {root : Option Nat} {pa : SemP} {p pos cp : Pos} {ca : Str → Addr} {ns ts cs fs : List Str} {isa : Str → Str → Bool} {y f : Str}
inductive Cnames (X : Cx) (ts : List Str) : List Expr → List Str → Prop
  | nil : Cnames X ts [] []
  | cons {y : Str} {es : List Expr} {ys : List Str} (cp : Pos) : y ∈ ts → Gl X y → (y == ("__debug__" : Str)) = false → starEach (.Name y cp :: es) X.env = (false, eval (.Name y cp) X.env) :: starEach es X.env → Cnames X ts es ys → Cnames X ts (.Name y cp :: es) (y :: ys)
end
section
variable {P : Program} {w : World} {K : PySem.W.Frag} {mg : Str → Option Value} {base : Heap}
structure FnP (P : Program) (w : World) (K : PySem.W.Frag) (mg : Str → Option Value) (base : Heap) (k : Nat) (f : Addr) (fd : FuncData) (ps : List Str) (sp : Addr → Addr → Option Addr → Sp) : Prop where
  len : ∀ a C d vs H Q E, sp a C d vs H Q E → vs.length = ps.length
  run : ∀ (A : Around) (outer : List PySem.Env) (s : Shared) (H : Hp) (args : Args) (us : List Value) (vs : List V) (Q : VK) (p : Addr × Obj) (C : Addr) (d : Option Addr), L2H.RoomH k A → A.guards = some [] → L2H.PinOk outer H s p → Zc (.ref C) d p.2 → (∃ ws, p.2.data = .fields ws) → Env0 P w K mg base A outer s H → BindsTo s fd args (ps.zip us) → Vals vs us → sp p.1 C d vs H Q (fun _ _ _ => False) →
    codeAny (model P w) A (.call (.ref f) args) (CR (fun _ _ _ _ _ _ => False) outer P w H s Q fun _ _ _ => False) s
abbrev SemX := List D → (D → Prop) → Prop
end
section
variable {X : Cx} {W : WX} {M : List Nat} {k : Nat} {f : Addr} {fd : FuncData} {ps : List Str} {spec : SemX} {ks : List (Option Nat)} {e : Expr} {es : List Expr} {qs : SemD} {x : Str} {p pos : Pos} {a C : Addr} {d : Option Addr}
end
end QV

set_option Elab.async false
set_option linter.all false
set_option maxRecDepth 100000
set_option maxHeartbeats 2000000
namespace QV
open PySem PySem.Spec PyProof.Rows L2
section
variable {P : Program} {w : World} {K : PySem.W.Frag} {mg : Str → Option Value} {base : Heap}
structure BareG (P : Program) (w : World) (K : PySem.W.Frag) (mg : Str → Option Value) (base : Heap) (k : Nat) (x : Str) (C : Addr) : Prop where
  at_ : mg x = some (.ref C)
  ex : ∃ fI fd, OexC K C ∧ PySem.W.findIn K (.ref C) "__init__" = some (some (.ref fI)) ∧ PySem.W.typeIn K (.ref fI) = some (.type "function") ∧ FnOk P w K mg base (L2.CX P w) k fI fd ["self"] (spIni K) ∧ Binds K fd ["self"] []
structure BareG1 (P : Program) (w : World) (K : PySem.W.Frag) (mg : Str → Option Value) (base : Heap) (k : Nat) (x : Str) (C : Addr) (f : Str) (ps : List Str) : Prop where
  at_ : mg x = some (.ref C)
  no : PySem.W.findIn K (.ref C) f = some none
  ex : ∃ fI fd, OexC K C ∧ PySem.W.findIn K (.ref C) "__init__" = some (some (.ref fI)) ∧ PySem.W.typeIn K (.ref fI) = some (.type "function") ∧ FnOk P w K mg base (L2.CX P w) k fI fd ps (spIni1 K f) ∧ Binds K fd ps []
structure BaseC (K : PySem.W.Frag) (mg : Str → Option Value) (b : Str) : Prop where
  ex : ∃ S, mg b = some (.ref S) ∧ PySem.W.specialIn K (.ref S) "__getattribute__" = some (some (.builtin "type.__getattribute__")) ∧ PySem.W.readsIn K S (.type "type") = true ∧ PySem.W.findCls K (.ref S) (.type "type") "__init__" = some (.val (.builtin "ValueError.__init__"))
end
end QV

set_option Elab.async false
set_option linter.all false
set_option maxRecDepth 100000
set_option maxHeartbeats 2000000
namespace QV
open PySem PySem.Spec PyProof.Rows L2
section
variable {X : Cx} {W : WX} {Ma Ml : List Nat} {e o : Expr} {ra rb : Option Nat} {pa pb : SemP} {apos pos : Pos}
end
end QV

set_option Elab.async false
set_option linter.all false
set_option maxRecDepth 100000
set_option maxHeartbeats 2000000
namespace L2
open PySem PySem.Spec PyProof.Rows
section
variable {prog : Program} {w : World} {A : Around} {E : Value → Shared → Prop} {s : Shared} {l : Addr} {xs : Array (Int × Tok)} {its : List Value} {ns : List Int}
end
end L2
namespace QV
open PySem L2
section
variable {K : PySem.W.Frag} {H : Hp} {ow : Ow}
end
section
variable {X : Cx} {W : WX} {M : List Nat} {e : Expr} {q : SemE} {pos p : Pos}
end
section
variable {K : PySem.W.Frag}
end
end QV

set_option Elab.async false
set_option linter.all false
set_option maxRecDepth 100000
set_option maxHeartbeats 2000000
namespace QV
open PySem L2

def T.kids : T → Option (Kd × List T)
  | .ow k ds => some (k, ds.map .fz)
  | .nd k ts => some (k, ts)
  | .fz _ => none
mutual
def T.put : T → List Nat → T → T
  | _, [], u => u
  | .nd k ts, j :: p, u => .nd k (Tput ts j p u)
  | t, _ :: _, _ => t
def Tput : List T → Nat → List Nat → T → List T
  | [], _, _, _ => []
  | t :: ts, 0, p, u => T.put t p u :: ts
  | t :: ts, j + 1, p, u => t :: Tput ts j p u
end
theorem put_nil {t u : T} : T.put t [] u = u := by cases t <;> rfl
theorem put_cons {k : Kd} {ts : List T} {j : Nat} {p : List Nat} {u : T} : T.put (.nd k ts) (j :: p) u = .nd k (Tput ts j p u) := rfl
theorem Tput_succ {t : T} {ts : List T} {j : Nat} {p : List Nat} {u : T} : Tput (t :: ts) (j + 1) p u = t :: Tput ts j p u := rfl
theorem Tput_set {p : List Nat} {u t : T} : ∀ {ts : List T} {j : Nat}, ts[j]? = some t → Tput ts j p u = ts.set j (T.put t p u)
  | [], j, h => by simp at h
  | t' :: ts, 0, h => by simp at h; subst h; rfl
  | t' :: ts, j + 1, h => by rw [Tput_succ, List.set_cons_succ, Tput_set (by simpa using h)]
theorem put_one {k : Kd} {ts : List T} {j : Nat} {t u : T} (h : ts[j]? = some t) : T.put (.nd k ts) ([] ++ [j]) u = .nd k (ts.set j u) := by
  show T.nd k (Tput ts j [] u) = _
  rw [Tput_set h, put_nil]
section
variable {K : PySem.W.Frag} {H H' : Hp} {ow ow' : Ow} {l : Lab}
theorem tps_fz : ∀ {vs : List V} {ds : List D}, Rps K (Bs H ow) vs ds → ∃ S, Tps K H ow l vs (ds.map .fz) S ∧ ∀ b, ¬ S b
  | _, _, .nil => ⟨_, .nil, fun _ h => h⟩
  | _, _, .cons r s => by
    obtain ⟨S, h1, h2⟩ := tps_fz s
    exact ⟨_, .cons (.fz r) h1 fun _ h => h.elim, fun b h => h.elim id (h2 b)⟩
theorem tps_data : ∀ {vs : List V} {ds : List D} {S : Addr → Prop}, Tps K H ow l vs (ds.map .fz) S → Rps K (Bs H ow) vs ds ∧ ∀ b, ¬ S b
  | _, [], _, .nil => ⟨.nil, fun _ h => h⟩
  | _, d :: ds, _, .cons r s _ => by
    cases r with
    | fz r =>
      obtain ⟨h1, h2⟩ := tps_data s
      exact ⟨.cons r h1, fun b h => h.elim id (h2 b)⟩
theorem Tp.kid {v : V} {t : T} {St : Addr → Prop} {k : Kd} {ts : List T} (h : Tp K H ow l v t St) (e : t.kids = some (k, ts)) : ∃ a dx vs S, v = .ref a ∧ Cell H a dx k vs ∧ (∀ b, Foot a dx k b → ow b = l ∧ ¬ S b) ∧ Tps K H ow l vs ts S ∧ ∀ b, St b ↔ (Foot a dx k b ∨ S b) := by
  cases h with
  | fz _ => cases e
  | ow c f r =>
    cases e
    obtain ⟨S, h1, h2⟩ := tps_fz (l := l) r
    exact ⟨_, _, _, S, rfl, c, fun b fb => ⟨f b fb, h2 b⟩, h1, fun b => ⟨.inl, fun z => z.elim id fun z => (h2 b z).elim⟩⟩
  | nd c f r =>
    cases e
    exact ⟨_, _, _, _, rfl, c, f, r, fun b => .rfl⟩
theorem set_self {α : Type} : ∀ {l : List α} {j : Nat} {a : α}, l[j]? = some a → l.set j a = l
  | [], _, _, h => by simp at h
  | x :: l, 0, a, h => by simp at h; subst h; rfl
  | x :: l, j + 1, a, h => by rw [List.set_cons_succ, set_self (by simpa using h)]
theorem Tps.put : ∀ {vs : List V} {ts : List T} {S : Addr → Prop} {j : Nat} {v1 : V} {t1 : T}, Tps K H ow l vs ts S → vs[j]? = some v1 → ts[j]? = some t1 → ∃ S1, Tp K H ow l v1 t1 S1 ∧ (∀ b, S1 b → S b) ∧
    ∀ (H' : Hp) (ow' : Ow) (v2 : V) (t2 : T) (S2 : Addr → Prop), Same (Bs H ow) (Bs H' ow') → (∀ b o, S b → ¬ S1 b → H b = some o → ow b = l → H' b = some o ∧ ow' b = l) → Tp K H' ow' l v2 t2 S2 → (∀ b, S2 b → S b → S1 b) →
      ∃ S', Tps K H' ow' l (vs.set j v2) (ts.set j t2) S' ∧ ∀ b, S' b → (S b ∧ ¬ S1 b) ∨ S2 b
  | _, _, _, _, _, _, .nil, e, _ => by simp at e
  | _, _, _, 0, v1, t1, .cons (S1 := Sa) (S2 := Sb) r s d, e, e' => by
    simp at e e'
    subst e e'
    refine ⟨Sa, r, fun b h => .inl h, fun H' ow' v2 t2 S2 bs fr r2 ds => ?_⟩
    have s' := s.car (l' := l) bs fun b o hb e1 e2 => fr b o (.inr hb) (fun z => d b z hb) e1 e2
    exact ⟨_, .cons r2 s' fun b h2 hb => d b (ds b h2 (.inr hb)) hb, fun b h => h.elim .inr fun hb => .inl ⟨.inr hb, fun z => d b z hb⟩⟩
  | _, _, _, j + 1, v1, t1, .cons (S1 := Sa) (S2 := Sb) r s d, e, e' => by
    obtain ⟨S1, r1, sub, go⟩ := Tps.put (j := j) s (by simpa using e) (by simpa using e')
    refine ⟨S1, r1, fun b h => .inr (sub b h), fun H' ow' v2 t2 S2 bs fr r2 ds => ?_⟩
    obtain ⟨S', h1, h2⟩ := go H' ow' v2 t2 S2 bs (fun b o hb n e1 e2 => fr b o (.inr hb) n e1 e2) r2 fun b hb hs => ds b hb (.inr hs)
    have r' := r.car (l' := l) bs fun b o hb e1 e2 => fr b o (.inl hb) (fun z => d b hb (sub b z)) e1 e2
    refine ⟨_, .cons r' h1 fun b ha hb => ?_, fun b h => ?_⟩
    · rcases h2 b hb with z | z
      · exact d b ha z.1
      · exact d b ha (sub b (ds b z (.inl ha)))
    · rcases h with z | z
      · exact .inl ⟨.inl z, fun y => d b z (sub b y)⟩
      · rcases h2 b z with y | y
        · exact .inl ⟨.inr y.1, y.2⟩
        · exact .inr y
theorem Sub.put {v0 v : V} {t0 t : T} {pt : List Nat} (s : Sub K H ow l v0 t0 pt v t) : ∀ {S0 : Addr → Prop}, Tp K H ow l v0 t0 S0 → ∃ St, Tp K H ow l v t St ∧ (∀ b, St b → S0 b) ∧
    ∀ (H' : Hp) (ow' : Ow) (t' : T) (S2 : Addr → Prop), Same (Bs H ow) (Bs H' ow') → (∀ b o, S0 b → ¬ St b → H b = some o → ow b = l → H' b = some o ∧ ow' b = l) → Tp K H' ow' l v t' S2 → (∀ b, S2 b → S0 b → St b) →
      ∃ S', Tp K H' ow' l v0 (t0.put pt t') S' ∧ ∀ b, S' b → (S0 b ∧ ¬ St b) ∨ S2 b := by
  induction s with
  | nil =>
    intro S0 r
    refine ⟨S0, r, fun _ h => h, fun H' ow' t' S2 bs fr r2 ds => ⟨S2, ?_, fun b h => .inr h⟩⟩
    rw [put_nil]
    exact r2
  | @cons a dx k vs ts j p v1 v t1 t c f e1 e2 _ ih =>
    intro S0 r
    cases r with
    | @nd a dx' k vs' ts S c' f' r' =>
      have e := c'.inj c
      subst e
      obtain ⟨S1, r1, sub, go⟩ := r'.put e1 e2
      obtain ⟨St, rt, sub2, go2⟩ := ih r1
      refine ⟨St, rt, fun b h => .inr (sub b (sub2 b h)), fun H' ow' t' S2 bs fr r2 ds => ?_⟩
      obtain ⟨S3, r3, h3⟩ := go2 H' ow' t' S2 bs (fun b o hb n q1 q2 => fr b o (.inr (sub b hb)) n q1 q2) r2 fun b hb hs => ds b hb (.inr (sub b hs))
      obtain ⟨S4, r4, h4⟩ := go H' ow' v1 (T.put t1 p t') S3 bs (fun b o hb n q1 q2 => fr b o (.inr hb) (fun z => n (sub2 b z)) q1 q2) r3 fun b hb hs => by
        rcases h3 b hb with z | z
        · exact z.1
        · exact sub2 b (ds b z (.inr hs))
      rw [set_self e1] at r4
      have nS : ∀ b, Foot a dx' k b → ¬ St b := fun b fb z => (f' b fb).2 (sub b (sub2 b z))
      have cc : Cell H' a dx' k vs' := c'.at_same fun b o fb q => (fr b o (.inl fb) (nS b fb) q (f' b fb).1).1
      refine ⟨fun b => Foot a dx' k b ∨ S4 b, ?_, ?_⟩
      · rw [put_cons, Tput_set e2]
        refine .nd cc (fun b fb => ⟨?_, fun z => ?_⟩) r4
        · obtain ⟨o, q⟩ := c'.there fb
          exact (fr b o (.inl fb) (nS b fb) q (f' b fb).1).2
        · rcases h4 b z with y | y
          · exact (f' b fb).2 y.1
          · rcases h3 b y with w | w
            · exact (f' b fb).2 (sub b w.1)
            · exact nS b fb (ds b w (.inl fb))
      · intro b h
        rcases h with z | z
        · exact .inl ⟨.inl z, nS b z⟩
        · rcases h4 b z with y | y
          · exact .inl ⟨.inr y.1, fun w => y.2 (sub2 b w)⟩
          · rcases h3 b y with w | w
            · exact .inl ⟨.inr (sub b w.1), w.2⟩
            · exact .inr w
theorem Sub.snoc {v0 : V} {t0 : T} {pt : List Nat} {a dx : Addr} {k : Kd} {vs : List V} {ts : List T} {j : Nat} {v1 : V} {t1 : T} (s : Sub K H ow l v0 t0 pt (.ref a) (.nd k ts)) (c : Cell H a dx k vs) (f : ∀ b, Foot a dx k b → ow b = l) (e1 : vs[j]? = some v1) (e2 : ts[j]? = some t1) : Sub K H ow l v0 t0 (pt ++ [j]) v1 t1 := by
  generalize hv : V.ref a = v at s
  generalize ht : T.nd k ts = t at s
  induction s with
  | nil => subst hv ht; exact .cons c f e1 e2 .nil
  | cons c' f' g1 g2 _ ih => exact .cons c' f' g1 g2 (ih hv ht)
theorem put_run {σ : L2.St} {env : Env} {i m : Nat} {v0 : V} {t0 t : T} {pt : List Nat} {v : V} {k : Kd} {ts : List T} (s : StOk K H ow σ env) (e1 : σ[i]? = some (some v0)) (e2 : env[i]? = some (some t0)) (sb : Sub K H ow (.sl i) v0 t0 pt v t) (hk : t.kids = some (k, ts)) (nt : k ≠ .tup) :
    ∃ a dx vs S, v = .ref a ∧ Cell H a dx k vs ∧ Tps K H ow (.sl i) vs ts S ∧ ∀ o : HO, Same (Bs H ow) (Bs (upd H a o) (Ow.mv ow (.tm m) (.sl i))) ∧ Tps K (upd H a o) (Ow.mv ow (.tm m) (.sl i)) (.sl i) vs ts S ∧
      (∀ w u, Tq K H ow (.tm m) w u → ∃ Sw, Tp K (upd H a o) (Ow.mv ow (.tm m) (.sl i)) (.sl i) w u Sw ∧ ∀ b, Sw b → ¬ S b ∧ ¬ Foot a dx k b ∧ ow b = .tm m) ∧
      (∀ b, Foot a dx k b → Ow.mv ow (.tm m) (.sl i) b = .sl i ∧ ¬ S b) ∧
      ∀ (t' : T) (S' : Addr → Prop), Tp K (upd H a o) (Ow.mv ow (.tm m) (.sl i)) (.sl i) (.ref a) t' S' → (∀ b, S' b → Foot a dx k b ∨ S b ∨ ow b = .tm m) →
        Stp [i] m H ow (upd H a o) (Ow.mv ow (.tm m) (.sl i)) ∧ StOk K (upd H a o) (Ow.mv ow (.tm m) (.sl i)) σ (env.set i (some (t0.put pt t'))) ∧ Out [i] env (env.set i (some (t0.put pt t'))) := by
  obtain ⟨w0, q1, S0, r0⟩ := s.at_ i t0 e2
  rw [e1] at q1
  cases q1
  obtain ⟨St, rt, sub, go⟩ := sb.put r0
  obtain ⟨a, dx, vs, S, rfl, c, f, r, hS⟩ := rt.kid hk
  refine ⟨a, dx, vs, S, rfl, c, r, fun o => ?_⟩
  have oa : ow a = .sl i := (f a foot_a).1
  have ne : ∀ {b : Addr}, ow b ≠ .sl i → b ≠ a := fun h z => h (by rw [z]; exact oa)
  have mvS : ∀ {b : Addr}, ow b = .sl i → Ow.mv ow (.tm m) (.sl i) b = .sl i := fun {b} h => by
    rw [mv_ne (by rw [h]; exact fun z => nomatch z)]; exact h
  have tpk : ∀ b ws, H b = some (.tup ws) → upd H a o b = some (.tup ws) := fun b ws e => by
    have nb : b ≠ a := fun z => by
      rw [z, c.at_] at e
      cases k with
      | tup => exact nt rfl
      | _ => cases e
    rw [upd_ne nb]; exact e
  have bs : Same (Bs H ow) (Bs (upd H a o) (Ow.mv ow (.tm m) (.sl i))) := bs_map (fun b x g2 g1 => ⟨by rw [upd_ne (ne (by rw [g1]; exact fun z => nomatch z))]; exact g2, by rw [mv_ne (by rw [g1]; exact fun z => nomatch z)]; exact g1⟩) tpk
  have keep : ∀ b x, b ≠ a → H b = some x → ow b = .sl i → upd H a o b = some x ∧ Ow.mv ow (.tm m) (.sl i) b = .sl i := fun b x hb g1 g2 => ⟨by rw [upd_ne hb]; exact g1, mvS g2⟩
  have lab0 : ∀ b, S0 b → ow b = .sl i := fun b h => (r0.there b h).1
  refine ⟨bs, r.car bs fun b x hb g1 g2 => keep b x (fun z => (f a foot_a).2 (z ▸ hb)) g1 g2, fun w u ⟨Sw, hw⟩ => ⟨Sw, hw.car bs fun b x _ g1 g2 => ⟨by rw [upd_ne (ne (by rw [g2]; exact fun z => nomatch z))]; exact g1, mv_eq g2⟩, fun b hb => ?_⟩, fun b fb => ⟨mvS (f b fb).1, (f b fb).2⟩, fun t' S' r' hS' => ?_⟩
  · have lb := (hw.there b hb).1
    refine ⟨fun z => ?_, fun z => ?_, lb⟩
    · have := lab0 b (sub b ((hS b).mpr (.inr z)))
      rw [lb] at this
      cases this
    · have := (f b z).1
      rw [lb] at this
      cases this
  · have stp : Stp [i] m H ow (upd H a o) (Ow.mv ow (.tm m) (.sl i)) := ⟨fun b x g1 g2 => by
      have nsl : ow b ≠ .sl i := fun z => by rw [z] at g2; exact g2 (by simp)
      have ntm : ow b ≠ .tm m := fun z => by rw [z] at g2; exact absurd g2 (Nat.lt_irrefl m)
      exact ⟨by rw [upd_ne (ne nsl)]; exact g1, mv_ne ntm⟩, tpk⟩
    obtain ⟨S4, r4, _⟩ := go (upd H a o) (Ow.mv ow (.tm m) (.sl i)) t' S' bs (fun b x hb n g1 g2 => keep b x (fun z => n ((hS b).mpr (.inl (z ▸ foot_a)))) g1 g2) r' fun b hb h0 => by
      rcases hS' b hb with z | z | z
      · exact (hS b).mpr (.inl z)
      · exact (hS b).mpr (.inr z)
      · have := lab0 b h0
        rw [z] at this
        cases this
    refine ⟨stp, s.stp stp Out.set1 fun j x hj e => ?_, Out.set1⟩
    have ej : j = i := by simpa using hj
    subst ej
    rw [List.getElem?_set_self (List.getElem?_eq_some_iff.mp e2).1] at e
    cases e
    exact ⟨v0, e1, _, r4⟩
end
end QV

set_option Elab.async false
set_option linter.all false
set_option maxRecDepth 100000
set_option maxHeartbeats 2000000
namespace QV
open PySem L2

def ixP (t u : T) (pt : List Nat) (Q : T → List Nat → Prop) : Prop := match u with
  | .fz (.int i) => match t with
    | .nd .lst ts => ∃ j, ixN ts.length i = some j ∧ ∃ t', ts[j]? = some t' ∧ Q t' (pt ++ [j])
    | .nd .tup ts => ∃ j, ixN ts.length i = some j ∧ ∃ t', ts[j]? = some t' ∧ Q t' (pt ++ [j])
    | .fz (.nd .lst ds) => ∃ d, atI ds i = some d ∧ Q (.fz d) []
    | .ow .lst ds => ∃ d, atI ds i = some d ∧ Q (.fz d) []
    | .fz (.nd .tup ds) => ∃ d, atI ds i = some d ∧ Q (.fz d) []
    | .ow .tup ds => ∃ d, atI ds i = some d ∧ Q (.fz d) []
    | _ => False
  | _ => False
def sPix (pa pb : SemP) : SemP := fun env Q E => pa env (fun t pt env1 => pb env1 (fun u _ env2 => ixP t u pt fun t' pt' => Q t' pt' env2) E) E
section
variable {K : PySem.W.Frag} {H : Hp} {ow : Ow} {σ : L2.St} {env : Env} {n : Nat} {root : Option Nat}
theorem Sub.cell {l : Lab} {v0 v : V} {t0 t : T} {pt : List Nat} {k : Kd} {ts : List T} (sb : Sub K H ow l v0 t0 pt v t) (r : Tq K H ow l v0 t0) (e : t.kids = some (k, ts)) : ∃ a dx vs S, v = .ref a ∧ Cell H a dx k vs ∧ (∀ b, Foot a dx k b → ow b = l ∧ ¬ S b) ∧ Tps K H ow l vs ts S := by
  obtain ⟨S, h⟩ := sb.tq r
  obtain ⟨a, dx, vs, S', h1, h2, h3, h4, _⟩ := h.kid e
  exact ⟨a, dx, vs, S', h1, h2, h3, h4⟩
theorem Plc.kid {v : V} {k : Kd} {ts : List T} {pt : List Nat} (s : StOk K H ow σ env) (h : Plc K H ow σ env n root v (.nd k ts) pt) : ∃ a dx vs, v = .ref a ∧ Cell H a dx k vs ∧ vs.length = ts.length ∧ ∀ j w t', vs[j]? = some w → ts[j]? = some t' → Plc K H ow σ env n root w t' (pt ++ [j]) := by
  rcases h with ⟨d, e, _⟩ | ⟨e, r⟩ | ⟨i, v0, t0, rfl, e1, e2, sb⟩
  · cases e
  · obtain ⟨a, dx, vs, S, h1, h2, h3, h4⟩ := Sub.cell (.nil) r (k := k) (ts := ts) rfl
    exact ⟨a, dx, vs, h1, h2, h4.len, fun j w t' g1 g2 => .inr (.inl ⟨e, let ⟨S', q⟩ := h4.get g1 g2; ⟨S', q⟩⟩)⟩
  · obtain ⟨w0, q1, r0⟩ := s.at_ i t0 e2
    rw [e1] at q1
    cases q1
    obtain ⟨a, dx, vs, S, h1, h2, h3, h4⟩ := sb.cell r0 (k := k) (ts := ts) rfl
    subst h1
    exact ⟨a, dx, vs, rfl, h2, h4.len, fun j w t' g1 g2 => .inr (.inr ⟨i, v0, t0, rfl, e1, e2, sb.snoc h2 (fun b fb => (h3 b fb).1) g1 g2⟩)⟩
theorem ixN_lt {m : Nat} {i : Int} {j : Nat} (h : ixN m i = some j) : j < m := by
  unfold ixN at h
  split at h
  · split at h
    · cases h; omega
    · cases h
  · split at h
    · cases h; omega
    · cases h
theorem atI_of {α : Type} {l : List α} {i : Int} {j : Nat} (h : ixN l.length i = some j) : atI l i = l[j]? := by unfold atI; rw [h]; rfl
theorem plc_fz {v : V} {d : D} {pt : List Nat} (r : Rp K (Bs H ow) v d) : Plc K H ow σ env n root v (.fz d) pt := .inl ⟨d, rfl, r⟩
end
section
variable {X : Cx} {W : WX} {M Ma Mb IO : List Nat} {e a b : Expr} {pa pb : SemP} {q : SemE} {ra rb root : Option Nat} {pos : Pos}
theorem p_ix (ha : QP X W Ma ra a pa) (hb : QP X W Mb rb b pb) (hs : PlainIx b := by exact fun _ _ => rfl) (hr : okR ra Mb = true := by decide) : QP X W (Ma ++ Mb) ra (.Subscript a b pos) (sPix pa pb) :=
  ⟨PE_imp (pe_ix ix_seq ha.run hb.run hs) fun σ H Qv ⟨n, ow, env, Q, E, s, hq, k, x⟩ => ⟨n, ow, env, _, E, s, hq, fun v t pt H1 ow1 env1 y1 s1 o1 r1 q1 =>
    ⟨n + 1, ow1, env1, _, E, s1, q1, fun w u pu H2 ow2 env2 y2 s2 o2 r2 q2 => by
      have P := r1.stp y2 o2 hr (Nat.lt_succ_self _)
      have y12 := y1.trans y2 subl subr (Nat.le_refl _) (Nat.le_succ _) (M := Ma ++ Mb)
      have o12 := o1.trans o2 subl subr (M := Ma ++ Mb)
      have fin : ∀ {v' : V} {t' : T} {pt' : List Nat}, Plc X.K H2 ow2 σ env2 n ra v' t' pt' → Q t' pt' env2 → Qv v' H2 := fun p z => k _ _ _ H2 ow2 env2 y12 s2 o12 p z
      have ei : ∀ {i : Int}, u = .fz (.int i) → w = .int i := fun e => by subst e; exact (r2.ro s2).int
      have lst : ∀ {i : Int} {ds : List D}, w = .int i → shL t = some ds → (∃ d, atI ds i = some d ∧ Q (.fz d) [] env2) → rIx X.K v w H2 Qv := fun {i ds} e1 e hd => by
        obtain ⟨d, hd, z⟩ := hd
        obtain ⟨a, vs, rfl, h1, z1, rr⟩ := (P.ro s2).lst e
        obtain ⟨x', e2, r3⟩ := rr.atI hd
        exact .inl ⟨a, vs, i, x', rfl, e1, .inl (.inl h1), e2, fin (plc_fz r3) z⟩
      have tup : ∀ {i : Int} {ds : List D}, w = .int i → shT t = some ds → (∃ d, atI ds i = some d ∧ Q (.fz d) [] env2) → rIx X.K v w H2 Qv := fun {i ds} e1 e hd => by
        obtain ⟨d, hd, z⟩ := hd
        obtain ⟨a, vs, rfl, h1, z1, rr⟩ := (P.ro s2).tup e
        obtain ⟨x', e2, r3⟩ := rr.atI hd
        exact .inr (.inl ⟨a, vs, i, x', rfl, e1, h1, e2, fin (plc_fz r3) z⟩)
      unfold ixP at q2
      split at q2
      · have e1 := ei rfl
        split at q2
        · obtain ⟨j, hj, t', ht, z⟩ := q2
          obtain ⟨a, dx, vs, rfl, c, l, kid⟩ := P.kid s2
          have hv : j < vs.length := by rw [l]; exact ixN_lt hj
          exact .inl ⟨a, vs, _, vs[j], rfl, e1, .inl (.inl c.at_), by rw [atI_of (by rw [l]; exact hj)]; simp [hv], fin (kid j _ _ (by simp [hv]) ht) z⟩
        · obtain ⟨j, hj, t', ht, z⟩ := q2
          obtain ⟨a, dx, vs, rfl, c, l, kid⟩ := P.kid s2
          have hv : j < vs.length := by rw [l]; exact ixN_lt hj
          exact .inr (.inl ⟨a, vs, _, vs[j], rfl, e1, sqT_of c.at_, by rw [atI_of (by rw [l]; exact hj)]; simp [hv], fin (kid j _ _ (by simp [hv]) ht) z⟩)
        · exact lst e1 rfl q2
        · exact lst e1 rfl q2
        · exact tup e1 rfl q2
        · exact tup e1 rfl q2
        · exact q2.elim
      · exact q2.elim, x.step y1 o1 subl subr (Nat.le_refl _) (Nat.le_succ _)⟩, fun r d H' ow' env' y s' o => x r d H' ow' env' (y.mono subl (Nat.le_refl _)) s' (o.mono subl)⟩⟩
end
def isL : T → Bool
  | .ow .lst _ => true
  | .nd .lst _ => true
  | _ => false
def appP (t u : T) (Q : T → T → Prop) : Prop := match t with
  | .ow .lst ds => match u with
    | .fz d => ds.length < sizeLine ∧ Q (.fz .non) (.ow .lst (ds ++ [d]))
    | u => ds.length < sizeLine ∧ Q (.fz .non) (.nd .lst (ds.map .fz ++ [u]))
  | .nd .lst ts => ts.length < sizeLine ∧ Q (.fz .non) (.nd .lst (ts ++ [u]))
  | _ => False
theorem isL_kids {t : T} (h : isL t = true) : ∃ ts, t.kids = some (.lst, ts) := by
  unfold isL at h
  split at h
  · exact ⟨_, rfl⟩
  · exact ⟨_, rfl⟩
  · cases h
section
variable {K : PySem.W.Frag} {H : Hp} {ow : Ow} {l : Lab}
theorem Tps.snoc : ∀ {vs : List V} {ts : List T} {S S1 : Addr → Prop} {w : V} {u : T}, Tps K H ow l vs ts S → Tp K H ow l w u S1 → (∀ b, S1 b → ¬ S b) → ∃ S', Tps K H ow l (vs ++ [w]) (ts ++ [u]) S' ∧ ∀ b, S' b → S b ∨ S1 b
  | _, _, _, _, _, _, .nil, r, _ => ⟨_, .cons r .nil (fun _ _ h => h), fun b h => h.elim .inr (fun h => .inl h)⟩
  | _, _, _, _, _, _, .cons (S1 := Sa) (S2 := Sb) r s d, r1, h => by
    obtain ⟨S', h1, h2⟩ := Tps.snoc s r1 fun b hb z => h b hb (.inr z)
    refine ⟨_, .cons r h1 fun b ha hb => ?_, fun b hb => ?_⟩
    · rcases h2 b hb with z | z
      · exact d b ha z
      · exact h b z (.inl ha)
    · rcases hb with z | z
      · exact .inl (.inl z)
      · rcases h2 b z with y | y
        · exact .inl (.inr y)
        · exact .inr y
theorem Tp.flat {a dx : Addr} {k : Kd} {vs : List V} {ds : List D} {S : Addr → Prop} (c : Cell H a dx k vs) (f : ∀ b, Foot a dx k b → ow b = l) (r : Tps K H ow l vs (ds.map .fz) S) : Tp K H ow l (.ref a) (.ow k ds) (Foot a dx k) := .ow c f (tps_data r).1
end
def sAppP (i : Nat) (pa : SemP) (q : SemE) : SemE := fun env Q E => pa env (fun t pt env1 => isL t = true ∧ q env1 (fun u env2 => match env2[i]? with
  | some (some t0) => appP t u fun w t' => Q w (env2.set i (some (t0.put pt t')))
  | _ => False) E) E
section
variable {X : Cx} {W : WX} {M Ma Mb IO : List Nat} {e a b o ix : Expr} {pa pb : SemP} {q qi : SemE} {ra rb root : Option Nat} {pos : Pos}
theorem okR_some {i : Nat} {M : List Nat} (h : okR (some i) M = true) : i ∉ M := of_decide_eq_true h
theorem Plc.own {K : PySem.W.Frag} {H : Hp} {ow : Ow} {σ : L2.St} {env : Env} {n i : Nat} {v : V} {t : T} {pt : List Nat} {k : Kd} {ts : List T} (h : Plc K H ow σ env n (some i) v t pt) (e : t.kids = some (k, ts)) : ∃ v0 t0, σ[i]? = some (some v0) ∧ env[i]? = some (some t0) ∧ Sub K H ow (.sl i) v0 t0 pt v t := by
  rcases h with ⟨d, rfl, _⟩ | ⟨z, _⟩ | ⟨i', v0, t0, z, e1, e2, sb⟩
  · cases e
  · cases z
  · cases z
    exact ⟨v0, t0, e1, e2, sb⟩
theorem q_appP (i : Nat) {apos cpos : Pos} (ho : QP X W Ma (some i) o pa) (he : QE X W Mb e q) (hr : okR (some i) Mb = true := by decide)
    (hbase : attributeBase o "append" X.env (eval o X.env) = eval o X.env := by rfl)
    (hfew : ((backTo cpos (starEach [e] X.env)).all (fun x => !x.1) && (backToKw cpos (keywordEach [] X.env)).all (fun x => x.1.isSome)
      && decide (([e] : List Expr).length + ([] : List Keyword).length + (if ([] : List Keyword).isEmpty then 0 else 1) < 30)) = true := by rfl)
    (hline : (apos.endLine == cpos.line) = true := by rfl) (hs : starEach [e] X.env = (false, eval e X.env) :: starEach [] X.env := by rfl) (hplain : (backTo cpos (starEach [] X.env)).any (·.1) = false := by rfl) :
    QE X W (Ma ++ (Mb ++ [i])) (.Call (.Attribute o "append" apos) [e] [] cpos) (sAppP i pa q) :=
  ⟨PE_imp (pe_bm PySem.F.plainAttrs_list PySem.F.slot_list_append PySem.F.type_list_append mt_append ho.run (pa_cons he.run pa_nil hs) hbase hfew hline hs hplain) fun σ H Qv ⟨n, ow, env, Q, E, s, hq, k, x⟩ => ⟨n, ow, env, _, E, s, hq, fun v t pt H1 ow1 env1 y1 s1 o1 r1 ⟨hk, q1⟩ => by
    obtain ⟨ts, ek⟩ := isL_kids hk
    obtain ⟨v0, t0, e1, e2, sb⟩ := r1.own ek
    obtain ⟨w0, g1, g2⟩ := s1.at_ i t0 e2
    rw [e1] at g1
    cases g1
    obtain ⟨a, dx, vs, S, ev, c, _, _⟩ := sb.cell g2 ek
    subst ev
    refine ⟨.inl ⟨rfl, vs, .inl (.inl c.at_)⟩, n + 1, ow1, env1, _, E, s1, q1, fun w u H2 ow2 env2 y2 s2 o2 r2 q2 => ?_, x.step y1 o1 subl (fun i h => subr i (subl i h)) (Nat.le_refl _) (Nat.le_succ _)⟩
    have hi := okR_some hr
    have e2' : env2[i]? = some (some t0) := (o2.eq i hi).trans e2
    have sb' : Sub X.K H2 ow2 (.sl i) v0 t0 pt (.ref a) t := sb.car (y2.car (l := .sl i) hi)
    split at q2
    · rename_i t0' e3
      rw [e2'] at e3
      cases e3
      obtain ⟨a', dx', us, S', ea, c', rr, go⟩ := put_run (m := n + 1) s2 e1 e2' sb' ek (fun z => nomatch z)
      cases ea
      obtain ⟨Bs', rS, rW, rF, fin⟩ := go (.lst (us ++ [w]))
      obtain ⟨Sw, rw', dw⟩ := rW w u r2
      obtain ⟨S3, r3, h3⟩ := Tps.snoc rS rw' fun b hb => (dw b hb).1
      have y12 : Stp (Ma ++ (Mb ++ [i])) n H1 ow1 H2 ow2 := y2.mono (fun i h => subr i (subl i h)) (Nat.le_succ _)
      have lu := rr.len
      -- what is left: the new tree
      have key : ∀ {t' : T}, us.length < sizeLine → (∃ S4, Tp X.K (upd H2 a (.lst (us ++ [w]))) (Ow.mv ow2 (.tm (n + 1)) (.sl i)) (.sl i) (.ref a) t' S4 ∧ ∀ b, S4 b → Foot a dx' .lst b ∨ S3 b) → Q (.fz .non) (env2.set i (some (t0.put pt t'))) → rAppend (.ref a) [w] H2 Qv := fun {t'} hz ⟨S4, h4, h5⟩ z => by
        refine ⟨a, us, w, rfl, rfl, c'.at_, hz, ?_⟩
        obtain ⟨y3, s3, o3⟩ := fin t' S4 h4 fun b hb => by
          rcases h5 b hb with z | z
          · exact .inl z
          · rcases h3 b z with z | z
            · exact .inr (.inl z)
            · exact .inr (.inr (dw b z).2.2)
        have y23 : Stp (Ma ++ (Mb ++ [i])) n H2 ow2 _ _ := y3.mono (fun i h => subr i (subr i h)) (Nat.le_succ _)
        exact k .non (.fz .non) _ _ _ ((y1.mono subl (Nat.le_refl _)).trans (y12.trans y23 (fun _ h => h) (fun _ h => h) (Nat.le_refl _) (Nat.le_refl _)) (fun _ h => h) (fun _ h => h) (Nat.le_refl _) (Nat.le_refl _)) s3
          ((o1.mono subl).trans ((o2.mono fun i h => subr i (subl i h)).trans (o3.mono fun i h => subr i (subr i h)) (fun _ h => h) fun _ h => h) (fun _ h => h) fun _ h => h) (Tq.fz_.mpr .non) z
      have cell : us.length < sizeLine → Cell (upd H2 a (.lst (us ++ [w]))) a dx' .lst (us ++ [w]) := fun hz => ⟨upd_same, by rw [List.length_append]; simp; omega, trivial⟩
      have nd : us.length < sizeLine → ∃ S4, Tp X.K (upd H2 a (.lst (us ++ [w]))) (Ow.mv ow2 (.tm (n + 1)) (.sl i)) (.sl i) (.ref a) (.nd .lst (ts ++ [u])) S4 ∧ ∀ b, S4 b → Foot a dx' .lst b ∨ S3 b := fun hz => ⟨_, .nd (cell hz) (fun b fb => ⟨(rF b fb).1, fun z => by
        rcases h3 b z with z | z
        · exact (rF b fb).2 z
        · exact (dw b z).2.1 fb⟩) r3, fun b h => h⟩
      cases t with
      | fz d => cases ek
      | ow kd ds =>
        cases kd <;> first | exact False.elim q2 | skip
        cases ek
        have hl : us.length = ds.length := by rw [lu, List.length_map]
        cases u with
        | fz d => exact key (by rw [hl]; exact q2.1) ⟨_, Tp.flat (S := S3) (cell (by rw [hl]; exact q2.1)) (fun b fb => (rF b fb).1) (by rw [List.map_append]; exact r3), fun b h => .inl h⟩ q2.2
        | ow _ _ => exact key (by rw [hl]; exact q2.1) (nd (by rw [hl]; exact q2.1)) q2.2
        | nd _ _ => exact key (by rw [hl]; exact q2.1) (nd (by rw [hl]; exact q2.1)) q2.2
      | nd kd ts' =>
        cases kd <;> first | exact False.elim q2 | skip
        cases ek
        exact key (by rw [lu]; exact q2.1) (nd (by rw [lu]; exact q2.1)) q2.2
    · exact q2.elim, fun r d H' ow' env' y s' o => x r d H' ow' env' (y.mono subl (Nat.le_refl _)) s' (o.mono subl)⟩⟩
def setP (t : T) (k : Int) (u : T) (Q : T → Prop) : Prop := match t with
  | .ow .lst ds => ∃ j, ixN ds.length k = some j ∧ match u with
    | .fz d => Q (.ow .lst (ds.set j d))
    | u => Q (.nd .lst ((ds.map .fz).set j u))
  | .nd .lst ts => ∃ j, ixN ts.length k = some j ∧ Q (.nd .lst (ts.set j u))
  | _ => False
def sStoreP (i : Nat) (q : SemE) (pa : SemP) (qi : SemE) : SemS := fun D env => q env (fun u env1 => pa env1 (fun t pt env2 => isL t = true ∧ qi env2 (fun w env3 => match w, env3[i]? with
  | .fz (.int k), some (some t0) => setP t k u fun t' => D.nx (env3.set i (some (t0.put pt t')))
  | _, _ => False) D.ex) D.ex) D.ex
theorem s_storeP (i : Nat) {tpos : Pos} (he : QE X W M e q) (ho : QP X W Ma (some i) o pa) (hix : QE X W Mb ix qi) (hr : okR (some i) Mb = true := by decide)
    (ha : ∀ v, assign (.Subscript o ix tpos) X.env v = (do
      let ov ← holding [v] (eval o X.env)
      let iv ← holding [v, ov] (eval ix X.env)
      standAt tpos
      holding [v, ov, iv] (setItem ov iv v)
      release [v, ov, iv] []) := by intro _; rfl) (hs : swapsWithSole [.Subscript o ix tpos] e pos.line X.env = pure false := by rfl) (hw : swappedStores [.Subscript o ix tpos] e X.env = pure none := by rfl)
    (h1 : (assignEach [.Subscript o ix tpos] X.env).map (·.2) = [assign (.Subscript o ix tpos) X.env] := by rfl) : QS X W IO (.Assign [.Subscript o ix tpos] e pos) (sStoreP i q pa qi) :=
  ⟨PS_imp (ps_asg he.run (pg_sub ho.run hix.run set_list ha) hs hw h1) fun D σ H ⟨ow, env, De, s, hq, k⟩ => ⟨0, ow, env, _, De.ex, s, hq, fun w u H0 ow0 env0 y0 s0 _ r0 q0 =>
    ⟨1, ow0, env0, _, De.ex, s0, q0, fun v t pt H1 ow1 env1 y1 s1 o1 r1 ⟨hk, q1⟩ => by
      obtain ⟨ts, ek⟩ := isL_kids hk
      obtain ⟨v0, t0, e1, e2, sb⟩ := r1.own ek
      have r0' : Tq X.K H1 ow1 (.tm 0) w u := (y1.car (l := .tm 0) Nat.zero_lt_one).tq r0
      refine ⟨2, ow1, env1, _, De.ex, s1, q1, fun kv kt H2 ow2 env2 y2 s2 o2 r2 q2 => ?_, ((k.ex.step y0.fs Ios.refl).step y1.fs Ios.refl).xk⟩
      have hi := okR_some hr
      have r0'' : Tq X.K H2 ow2 (.tm 0) w u := (y2.car (l := .tm 0) (by show 0 < 2; decide)).tq r0'
      have e2' : env2[i]? = some (some t0) := (o2.eq i hi).trans e2
      have sb' : Sub X.K H2 ow2 (.sl i) v0 t0 pt v t := sb.car (y2.car (l := .sl i) hi)
      split at q2
      · rename_i kk t0' e3
        rw [e2'] at e3
        cases e3
        have ekv := Tq.rd r2
        cases ekv
        obtain ⟨a, dx, us, S, ea, c, rr, go⟩ := put_run (m := 0) s2 e1 e2' sb' ek (fun z => nomatch z)
        subst ea
        have lu := rr.len
        have key : ∀ {j : Nat} {t' : T}, ixN us.length kk = some j → (∀ S3, Tps X.K (upd H2 a (.lst (us.set j w))) (Ow.mv ow2 (.tm 0) (.sl i)) (.sl i) (us.set j w) (ts.set j u) S3 → (∀ b, Foot a dx .lst b → Ow.mv ow2 (.tm 0) (.sl i) b = .sl i ∧ ¬ S3 b) → Cell (upd H2 a (.lst (us.set j w))) a dx .lst (us.set j w) → ∃ S4, Tp X.K (upd H2 a (.lst (us.set j w))) (Ow.mv ow2 (.tm 0) (.sl i)) (.sl i) (.ref a) t' S4 ∧ ∀ b, S4 b → Foot a dx .lst b ∨ S3 b) → De.nx (env2.set i (some (t0.put pt t'))) → rSetL (.ref a) (.int kk) w H2 fun H3 => D.nx σ H3 := fun {j t'} hj mk z => by
          refine ⟨a, us, kk, j, rfl, rfl, c.at_, hj, ?_⟩
          obtain ⟨Bs', rS, rW, rF, fin⟩ := go (.lst (us.set j w))
          obtain ⟨Sw, rw', dw⟩ := rW w u r0''
          have hjl := ixN_lt hj
          obtain ⟨S1, _, sub1, put⟩ := rS.put (j := j) (v1 := us[j]) (t1 := ts[j]'(by omega)) (by simp [hjl]) (by simp)
          obtain ⟨S3, r3, h3⟩ := put _ _ w u Sw (fun _ _ e => e) (fun b x _ _ g1 g2 => ⟨g1, g2⟩) rw' fun b hb hs => absurd hs (dw b hb).1
          have F3 : ∀ b, Foot a dx .lst b → Ow.mv ow2 (.tm 0) (.sl i) b = .sl i ∧ ¬ S3 b := fun b fb => ⟨(rF b fb).1, fun z => by
            rcases h3 b z with z | z
            · exact (rF b fb).2 z.1
            · exact (dw b z).2.1 fb⟩
          obtain ⟨S4, h4, h5⟩ := mk S3 r3 F3 ⟨upd_same, by rw [List.length_set]; exact c.sz, trivial⟩
          obtain ⟨y3, s3, o3⟩ := fin t' S4 h4 fun b hb => by
            rcases h5 b hb with z | z
            · exact .inl z
            · rcases h3 b z with z | z
              · exact .inr (.inl z.1)
              · exact .inr (.inr (dw b z).2.2)
          exact k.nx _ _ _ _ (((y0.fs.trans y1.fs).trans y2.fs).trans y3.fs) Ios.refl s3 z
        cases t with
        | fz d => cases ek
        | ow kd ds =>
          cases kd <;> first | exact False.elim q2 | skip
          cases ek
          rw [List.length_map] at lu
          obtain ⟨j, hj, z⟩ := q2
          cases u with
          | fz d =>
            refine key (by rw [lu]; exact hj) (fun S3 r3 F3 cc => ⟨_, Tp.flat (S := S3) cc (fun b fb => (F3 b fb).1) ?_, fun b h => .inl h⟩) z
            rw [List.map_set]; exact r3
          | ow _ _ => exact key (by rw [lu]; exact hj) (fun S3 r3 F3 cc => ⟨_, .nd cc F3 r3, fun b h => h⟩) z
          | nd _ _ => exact key (by rw [lu]; exact hj) (fun S3 r3 F3 cc => ⟨_, .nd cc F3 r3, fun b h => h⟩) z
        | nd kd ts' =>
          cases kd <;> first | exact False.elim q2 | skip
          cases ek
          obtain ⟨j, hj, z⟩ := q2
          exact key (by rw [lu]; exact hj) (fun S3 r3 F3 cc => ⟨_, .nd cc F3 r3, fun b h => h⟩) z
      · exact q2.elim, (k.ex.step y0.fs Ios.refl).xk⟩, k.ex.xk⟩⟩
end
end QV

set_option Elab.async false
set_option linter.all false
set_option maxRecDepth 100000
set_option maxHeartbeats 2000000
namespace QV
open PySem L2

abbrev SemAT := Env → (List T → Env → Prop) → XQ → Prop
def tAT (K : PySem.W.Frag) (W : WX) (M : List Nat) (m : Nat) (q : SemAT) : TA := fun σ H Qv => ∃ (n : Nat) (ow : Ow) (env : Env) (Q : List T → Env → Prop) (E : XQ), StOk K H ow σ env ∧ q env Q E ∧
  (∀ (vs : List V) (ts : List T) (H' : Hp) (ow' : Ow) (env' : Env), Stp M n H ow H' ow' → StOk K H' ow' σ env' → Out M env env' → vs.length = m → ts.length = m → (∀ (j : Nat) (v : V) (t : T), vs[j]? = some v → ts[j]? = some t → Tq K H' ow' (.tm (n + j)) v t) → Q ts env' → Qv vs H') ∧ Xk K W M σ H n ow env E
structure QAT (X : Cx) (W : WX) (M : List Nat) (k : Nat) (es : List Expr) (q : SemAT) : Prop where
  run : PA X es (tAT X.K W M k q)
def atNil : SemAT := fun env Q _ => Q [] env
def atCons (q : SemE) (qs : SemAT) : SemAT := fun env Q E => q env (fun t env1 => qs env1 (fun ts env2 => Q (t :: ts) env2) E) E
def Ow.one (ow : Ow) (n : Nat) : Ow := fun b => match ow b with
  | .tm k => if n ≤ k then .tm n else .tm k
  | l => l
section
variable {K : PySem.W.Frag} {H : Hp} {ow : Ow} {n : Nat}
theorem one_tm {k : Nat} {b : Addr} (h : ow b = .tm k) (hk : n ≤ k) : Ow.one ow n b = .tm n := by unfold Ow.one; rw [h]; exact if_pos hk
theorem one_ne {b : Addr} (h : ∀ k, ow b = .tm k → k < n) : Ow.one ow n b = ow b := by
  unfold Ow.one
  split
  · rename_i k e
    rw [if_neg (by have := h k e; omega), e]
  · rfl
theorem bs_one : Same (Bs H ow) (Bs H (Ow.one ow n)) := bs_lab fun a e1 => by rw [one_ne (fun k z => by rw [e1] at z; cases z)]; exact e1
theorem stp_one {M : List Nat} : Stp M n H ow H (Ow.one ow n) := ⟨fun a o e q => ⟨e, one_ne fun k z => by rw [z] at q; exact q⟩, fun _ _ e => e⟩
theorem tps_one : ∀ {vs : List V} {ts : List T} {m : Nat}, n ≤ m → vs.length = ts.length → (∀ (j : Nat) (v : V) (t : T), vs[j]? = some v → ts[j]? = some t → Tq K H ow (.tm (m + j)) v t) → ∃ S, Tps K H (Ow.one ow n) (.tm n) vs ts S ∧ ∀ b, S b → ∃ k, m ≤ k ∧ ow b = .tm k
  | [], [], m, _, _, _ => ⟨_, .nil, fun _ h => h.elim⟩
  | v :: vs, t :: ts, m, hm, hl, h => by
    obtain ⟨S, r⟩ := h 0 v t rfl rfl
    obtain ⟨S2, r2, h2⟩ := tps_one (vs := vs) (ts := ts) (m := m + 1) (by omega) (by simpa using hl) fun j v' t' e1 e2 => by
      have := h (j + 1) v' t' (by simpa using e1) (by simpa using e2)
      rwa [show m + 1 + j = m + (j + 1) by omega]
    have r' := r.car (H' := H) (ow' := Ow.one ow n) (l' := .tm n) bs_one fun b o _ e1 e2 => ⟨e1, one_tm e2 (by omega)⟩
    refine ⟨_, .cons r' r2 fun b hb hb2 => ?_, fun b hb => ?_⟩
    · obtain ⟨k, hk, e⟩ := h2 b hb2
      have := (r.there b hb).1
      rw [e] at this
      have := Lab.tm.inj this
      omega
    · rcases hb with z | z
      · exact ⟨m, Nat.le_refl _, by have := (r.there b z).1; simpa using this⟩
      · obtain ⟨k, hk, e⟩ := h2 b z
        exact ⟨k, by omega, e⟩
theorem tps_there {l : Lab} {vs : List V} {ts : List T} {S : Addr → Prop} (r : Tps K H ow l vs ts S) (b : Addr) (h : S b) : ∃ o, H b = some o := (r.there b h).2
theorem nd_new {k : Kd} {l : Lab} {p : Addr} {vs : List V} {ts : List T} {o : HO} (hp : H p = none) (ho : HOof k p vs = o) (hz : vs.length ≤ sizeLine) (hf : k = .lst ∨ k = .tup) {S : Addr → Prop} (r : Tps K H ow l vs ts S) : Tq K (upd H p o) (Ow.put ow p l) l (.ref p) (.nd k ts) := by
  subst ho
  have r' := r.car (H' := upd H p (HOof k p vs)) (ow' := Ow.put ow p l) (l' := l) (Stp.bs (M := []) (n := 0) (Stp.new hp)) fun b o hb e1 e2 => by
    have ne : b ≠ p := ne_of_none e1 hp
    exact ⟨by rw [upd_ne ne]; exact e1, by rw [put_ne ne]; exact e2⟩
  have fp : ∀ b, Foot p p k b → b = p := fun b fb => by rcases hf with rfl | rfl <;> exact fb
  refine ⟨_, .nd (dx := p) ⟨upd_same, hz, by rcases hf with rfl | rfl <;> trivial⟩ (fun b fb => ?_) r'⟩
  have e := fp b fb
  subst e
  refine ⟨put_same, fun z => ?_⟩
  obtain ⟨o, e⟩ := tps_there r b z
  rw [hp] at e
  cases e
end
def sNd (k : Kd) (qs : SemAT) : SemE := fun env Q E => qs env (fun ts env1 => Q (.nd k ts) env1) E
section
variable {X : Cx} {W : WX} {M Ma Mb : List Nat} {k : Nat} {e : Expr} {es : List Expr} {q : SemE} {qs : SemAT} {pos : Pos}
theorem at_nil : QAT X W [] 0 [] atNil := ⟨PA_imp pa_nil fun σ H Qv ⟨n, ow, env, Q, E, s, hq, k, x⟩ => k [] [] H ow env Stp.refl s Out.refl rfl rfl (fun j v d h => by simp at h) hq⟩
theorem at_cons (h1 : QE X W Ma e q) (h2 : QAT X W Mb k es qs) (hs : starEach (e :: es) X.env = (false, eval e X.env) :: starEach es X.env := by rfl) : QAT X W (Ma ++ Mb) (k + 1) (e :: es) (atCons q qs) :=
  ⟨PA_imp (pa_cons h1.run h2.run hs) fun σ H Qv ⟨n, ow, env, Q, E, s, hq, kk, x⟩ => ⟨n, ow, env, _, E, s, hq, fun v t H1 ow1 env1 y1 s1 o1 r1 z =>
    ⟨n + 1, ow1, env1, _, E, s1, z, fun vs ts H2 ow2 env2 y2 s2 o2 l l' hv z2 => by
      refine kk _ _ H2 ow2 env2 (y1.trans y2 subl subr (Nat.le_refl _) (Nat.le_succ _)) s2 (o1.trans o2 subl subr) (by rw [List.length_cons, l]) (by rw [List.length_cons, l']) (fun j v' t' ev et => ?_) z2
      cases j with
      | zero =>
        simp at ev et
        subst ev et
        exact (y2.car (l := .tm n) (Nat.lt_succ_self n)).tq r1
      | succ j =>
        have := hv j v' t' (by simpa using ev) (by simpa using et)
        rwa [show n + 1 + j = n + (j + 1) by omega] at this, x.step y1 o1 subl subr (Nat.le_refl _) (Nat.le_succ _)⟩, fun r d H' ow' env' y s' o => x r d H' ow' env' (y.mono subl (Nat.le_refl _)) s' (o.mono subl)⟩⟩
theorem nd_run {kd : Kd} (hf : kd = .lst ∨ kd = .tup) (hz : k ≤ sizeLine) (ho : ∀ (p : Addr) (vs : List V), HOof kd p vs = HOof kd 0 vs) {σ : L2.St} {H : Hp} {Qv : VK} (h : tQ X.K W M (sNd kd qs) σ H Qv) :
    tAT X.K W M k qs σ H fun vs H1 => vs.length ≤ sizeLine ∧ ∀ p, H1 p = none → Qv (.ref p) (upd H1 p (HOof kd 0 vs)) := by
  obtain ⟨n, ow, env, Q, E, s, hq, kk, x⟩ := h
  refine ⟨n, ow, env, _, E, s, hq, fun vs ts H1 ow1 env1 y1 s1 o1 l l' hv z => ⟨by omega, fun p hp => ?_⟩, x⟩
  obtain ⟨S, r, _⟩ := tps_one (n := n) (Nat.le_refl n) (l.trans l'.symm) hv
  have y2 : Stp M n H1 ow1 H1 (Ow.one ow1 n) := stp_one
  have s2 : StOk X.K H1 (Ow.one ow1 n) σ env1 := s1.stp0 (n := n) stp_one
  have y3 : Stp M n H1 (Ow.one ow1 n) (upd H1 p (HOof kd 0 vs)) (Ow.put (Ow.one ow1 n) p (.tm n)) := Stp.new hp
  exact kk _ _ _ _ env1 ((y1.trans y2 (fun _ h => h) (fun _ h => h) (Nat.le_refl _) (Nat.le_refl _)).trans y3 (fun _ h => h) (fun _ h => h) (Nat.le_refl _) (Nat.le_refl _)) (s2.stp0 (n := 0) (Stp.new hp)) o1
    (nd_new hp (ho p vs) (by omega) hf r) z
theorem q_tupT {x1} (h : QAT X W M k es qs) (hz : k ≤ sizeLine := by decide) : QE X W M (.Tuple es x1 pos) (sNd .tup qs) := ⟨PE_imp (pe_tup h.run) fun _ _ _ z => nd_run (.inr rfl) hz (fun _ _ => rfl) z⟩
end
end QV

set_option Elab.async false
set_option linter.all false
set_option maxRecDepth 100000
set_option maxHeartbeats 2000000
namespace QV
open PySem L2
def tAX (K : PySem.W.Frag) (W : WX) (M : List Nat) (ks : List (Option Nat)) (q : SemAT) : TA := fun σ H Qv => ∃ (n : Nat) (ow : Ow) (env : Env) (Q : List T → Env → Prop) (E : XQ), StOk K H ow σ env ∧ q env Q E ∧
  (∀ (vs : List V) (ts : List T) (H' : Hp) (ow' : Ow) (env' : Env), Stp M n H ow H' ow' → StOk K H' ow' σ env' → Out M env env' → vs.length = ks.length → ts.length = ks.length →
    (∀ (j : Nat) (v : V) (t : T), vs[j]? = some v → ts[j]? = some t → (ks[j]? = some none → Tq K H' ow' (.tm (n + j)) v t) ∧ ∀ i, ks[j]? = some (some i) → σ[i]? = some (some v)) → Q ts env' → Qv vs H') ∧ Xk K W M σ H n ow env E
structure QAX (X : Cx) (W : WX) (M : List Nat) (ks : List (Option Nat)) (es : List Expr) (q : SemAT) : Prop where
  run : PA X es (tAX X.K W M ks q)
section
variable {X : Cx} {W : WX} {M Ma Mb : List Nat} {e : Expr} {es : List Expr} {q : SemE} {qs : SemAT} {ks : List (Option Nat)} {pos : Pos}
end
section
variable {X : Cx} {W : WX} {M : List Nat} {k : Nat} {f : Addr} {fd : FuncData} {ps : List Str} {io cs : List Nat} {spec : SemF} {ks : List (Option Nat)} {e : Expr} {es : List Expr} {qs : SemAT} {x : Str} {p pos : Pos}
end
end QV

set_option Elab.async false
set_option linter.all false
set_option maxRecDepth 100000
set_option maxHeartbeats 2000000
namespace QV
open PySem PySem.Spec PyProof.Rows L2
def flD0 : D → Bool
  | .non => true
  | .bl _ => true
  | .int _ => true
  | .str _ => true
  | _ => false
mutual
def ownT : T → Bool
  | .fz d => flD0 d
  | .ow _ ds => ds.all flD0
  | .nd _ ts => ownTs ts
def ownTs : List T → Bool
  | [] => true
  | t :: ts => ownT t && ownTs ts
end
section
variable {K : PySem.W.Frag} {B B' : Hp}
theorem rp_flat {v : V} {d : D} (r : Rp K B v d) (h : flD0 d = true) : Rp K B' v d := by
  cases r with
  | non => exact .non
  | bl b => exact .bl b
  | int i => exact .int i
  | str x => exact .str x
  | _ => cases h
theorem rps_flat : ∀ {vs : List V} {ds : List D}, Rps K B vs ds → ds.all flD0 = true → Rps K B' vs ds
  | _, _, .nil, _ => .nil
  | _, _, .cons r s, h => by
    rw [List.all_cons, Bool.and_eq_true] at h
    exact .cons (rp_flat r h.1) (rps_flat s h.2)
mutual
theorem Tp.free {H H' : Hp} {ow ow' : Ow} {l l' : Lab} : ∀ {v : V} {t : T} {S : Addr → Prop}, ownT t = true → (∀ a o, S a → H a = some o → ow a = l → H' a = some o ∧ ow' a = l') → Tp K H ow l v t S → Tp K H' ow' l' v t S
  | _, _, _, h, _, .fz r => .fz (rp_flat r (by simpa [ownT] using h))
  | _, _, _, h, k, .ow c f r => .ow (c.at_same fun b o fb q => (k b o fb q (f b fb)).1) (fun b fb => let ⟨o, q⟩ := c.there fb; (k b o fb q (f b fb)).2) (rps_flat r (by simpa [ownT] using h))
  | _, _, _, h, k, .nd c f r => .nd (c.at_same fun b o fb q => (k b o (.inl fb) q (f b fb).1).1)
      (fun b fb => let ⟨o, q⟩ := c.there fb; ⟨(k b o (.inl fb) q (f b fb).1).2, (f b fb).2⟩) (Tps.free (by simpa [ownT] using h) (fun b o s => k b o (.inr s)) r)
theorem Tps.free {H H' : Hp} {ow ow' : Ow} {l l' : Lab} : ∀ {v : List V} {t : List T} {S : Addr → Prop}, ownTs t = true → (∀ a o, S a → H a = some o → ow a = l → H' a = some o ∧ ow' a = l') → Tps K H ow l v t S → Tps K H' ow' l' v t S
  | _, _, _, _, _, .nil => .nil
  | _, t :: ts, _, h, k, .cons r s d => by
    have h' : ownT t = true ∧ ownTs ts = true := by simpa [ownTs] using h
    exact .cons (Tp.free h'.1 (fun b o q => k b o (.inl q)) r) (Tps.free h'.2 (fun b o q => k b o (.inr q)) s) d
end
end
section
variable {X : Cx} {W : WX} {M : List Nat} {k : Nat} {f : Addr} {fd : FuncData} {ps : List Str} {io cs : List Nat} {spec : SemF} {ks : List (Option Nat)} {e : Expr} {es : List Expr} {qs : SemD} {x : Str} {p pos : Pos}
end
end QV

set_option Elab.async false
set_option linter.all false
set_option maxRecDepth 100000
set_option maxHeartbeats 2000000
namespace QV
open PySem L2
def look {κ α : Type} [DecidableEq κ] : List κ → List α → κ → Option α
  | k' :: ks, a :: as, k => if k' = k then some a else look ks as k
  | _, _, _ => none
theorem look_zip {κ : Type} [DecidableEq κ] : ∀ (ks : List κ) (vs : List V) (k : κ), valV (ks.zip vs) k = look ks vs k
  | [], vs, k => by simp [look, valV]
  | k' :: ks, [], k => by simp [look, valV]
  | k' :: ks, v :: vs, k => by
    rw [List.zip_cons_cons]
    by_cases e : k' = k
    · rw [valV_pos e, look, if_pos e]
    · rw [valV_neg e, look, if_neg e, look_zip ks vs k]
section
variable {K : PySem.W.Frag} {B : Hp}
theorem Rps.look {κ : Type} [DecidableEq κ] : ∀ {ks : List κ} {vs : List V} {ds : List D} {k : κ}, Rps K B vs ds → (QV.look ks ds k = none ∧ QV.look ks vs k = none) ∨ ∃ d v, QV.look ks ds k = some d ∧ QV.look ks vs k = some v ∧ Rp K B v d
  | [], _, _, _, .nil => .inl ⟨rfl, rfl⟩
  | [], _, _, _, .cons _ _ => .inl ⟨rfl, rfl⟩
  | k' :: ks, _, _, k, .nil => .inl ⟨rfl, rfl⟩
  | k' :: ks, _, _, k, .cons (d := d) (v := v) r s => by
    by_cases e : k' = k
    · exact .inr ⟨d, v, by rw [QV.look, if_pos e], by rw [QV.look, if_pos e], r⟩
    · rcases Rps.look (ks := ks) (k := k) s with ⟨h1, h2⟩ | ⟨d, v, h1, h2, h3⟩
      · exact .inl ⟨by rw [QV.look, if_neg e, h1], by rw [QV.look, if_neg e, h2]⟩
      · exact .inr ⟨d, v, by rw [QV.look, if_neg e, h1], by rw [QV.look, if_neg e, h2], h3⟩
end
def keyD : D → Option Key
  | .int i => some (Sum.inl i)
  | .str x => some (Sum.inr x)
  | _ => none
def keysD : List D → Option (List Key)
  | [] => some []
  | d :: ds => match keyD d, keysD ds with
    | some k, some ks => some (k :: ks)
    | _, _ => none
def shK : T → Option (List Key × List D)
  | .fz (.nd (.dK ks) ds) => some (ks, ds)
  | .ow (.dK ks) ds => some (ks, ds)
  | _ => none
def shKT : T → Option (List (List Key) × List D)
  | .fz (.nd (.dT ks) ds) => some (ks, ds)
  | .ow (.dT ks) ds => some (ks, ds)
  | _ => none
section
variable {K : PySem.W.Frag} {H : Hp} {ow : Ow}
theorem rp_key {B : Hp} {y : V} {d : D} {k : Key} (r : Rp K B y d) (h : keyD d = some k) : y = kV k := by
  cases r <;> cases h <;> rfl
theorem rps_keys {B : Hp} : ∀ {vs : List V} {ds : List D} {ks : List Key}, Rps K B vs ds → keysD ds = some ks → vs = ks.map kV
  | _, _, ks, .nil, h => by cases h; rfl
  | _, _, ks, .cons (d := d) (ds := ds) r s, h => by
    simp only [keysD] at h
    split at h
    · rename_i k ks' e1 e2
      cases h
      rw [rp_key r e1, rps_keys s e2]
      rfl
    · cases h
theorem Ro.key {y : V} {d : D} {k : Key} (r : Ro K H ow y (.fz d)) (h : keyD d = some k) : y = kV k := rp_key r.rd h
theorem Ro.keyT {y : V} {t : T} {ds : List D} {ks : List Key} (r : Ro K H ow y t) (e : t = .fz (.nd .tup ds)) (h : keysD ds = some ks) : ∃ b, y = .ref b ∧ H b = some (.tup (ks.map kV)) := by
  subst e
  obtain ⟨l, r⟩ := r
  cases Tq.fz_.mp r with
  | tup c z r => exact ⟨_, rfl, by rw [← rps_keys r h]; exact bs_same H ow _ _ c⟩
  | cell hn _ _ => exact absurd rfl hn
theorem Ro.dK {x : V} {t : T} {ks : List Key} {ds : List D} (h : Ro K H ow x t) (e : shK t = some (ks, ds)) : ∃ a vs, x = .ref a ∧ H a = some (.dK (ks.zip vs)) ∧ ks.length = vs.length ∧ vs.length ≤ sizeLine ∧ Rps K (Bs H ow) vs ds := by
  unfold shK at e
  split at e
  · cases e
    obtain ⟨l, h⟩ := h
    cases Tq.fz_.mp h with
    | cell _ c r => exact ⟨_, _, rfl, bs_same H ow _ _ c.at_, c.fit, c.sz, r⟩
  · cases e
    obtain ⟨l, S, h⟩ := h
    cases h with
    | ow c _ r => exact ⟨_, _, rfl, c.at_, c.fit, c.sz, r⟩
  · cases e
theorem Ro.dT {x : V} {t : T} {ks : List (List Key)} {ds : List D} (h : Ro K H ow x t) (e : shKT t = some (ks, ds)) : ∃ a vs, x = .ref a ∧ H a = some (.dT (ks.zip vs)) ∧ ks.length = vs.length ∧ vs.length ≤ sizeLine ∧ Rps K (Bs H ow) vs ds := by
  unfold shKT at e
  split at e
  · cases e
    obtain ⟨l, h⟩ := h
    cases Tq.fz_.mp h with
    | cell _ c r => exact ⟨_, _, rfl, bs_same H ow _ _ c.at_, c.fit, c.sz, r⟩
  · cases e
    obtain ⟨l, S, h⟩ := h
    cases h with
    | ow c _ r => exact ⟨_, _, rfl, c.at_, c.fit, c.sz, r⟩
  · cases e
def dGet (t u : T) : Option (Option D) := match t, u with
  | .fz (.nd (.dK ks) ds), .fz d => (keyD d).map fun k => look ks ds k
  | .ow (.dK ks) ds, .fz d => (keyD d).map fun k => look ks ds k
  | .fz (.nd (.dT ks) ds), .fz (.nd .tup es) => (keysD es).map fun k => look ks ds k
  | .ow (.dT ks) ds, .fz (.nd .tup es) => (keysD es).map fun k => look ks ds k
  | _, _ => none
theorem dget_of {x y : V} {t u : T} {o : Option D} (rx : Ro K H ow x t) (ry : Ro K H ow y u) (h : dGet t u = some o) : ∃ a r, x = .ref a ∧ DGet H a y r ∧ IsD H a ∧ ((o = none ∧ r = none) ∨ ∃ d v, o = some d ∧ r = some v ∧ Rp K (Bs H ow) v d) := by
  have kk : ∀ {ks : List Key} {ds : List D} {d : D}, shK t = some (ks, ds) → u = .fz d → ((keyD d).map fun k => look ks ds k) = some o → ∃ a r, x = .ref a ∧ DGet H a y r ∧ IsD H a ∧ ((o = none ∧ r = none) ∨ ∃ d v, o = some d ∧ r = some v ∧ Rp K (Bs H ow) v d) := fun {ks ds d} e1 e2 e3 => by
    subst e2
    obtain ⟨a, vs, rfl, c, hl, hz, r⟩ := rx.dK e1
    cases ek : keyD d with
    | none => rw [ek] at e3; cases e3
    | some k =>
      rw [ek] at e3
      cases e3
      have ey := ry.key ek
      subst ey
      refine ⟨a, _, rfl, DGet.k c, .inl ⟨_, .inl c⟩, ?_⟩
      rw [look_zip]
      exact r.look
  have kt : ∀ {ks : List (List Key)} {ds es : List D}, shKT t = some (ks, ds) → u = .fz (.nd .tup es) → ((keysD es).map fun k => look ks ds k) = some o → ∃ a r, x = .ref a ∧ DGet H a y r ∧ IsD H a ∧ ((o = none ∧ r = none) ∨ ∃ d v, o = some d ∧ r = some v ∧ Rp K (Bs H ow) v d) := fun {ks ds es} e1 e2 e3 => by
    obtain ⟨a, vs, rfl, c, hl, hz, r⟩ := rx.dT e1
    cases ek : keysD es with
    | none => rw [ek] at e3; cases e3
    | some k =>
      rw [ek] at e3
      cases e3
      obtain ⟨b, rfl, hb⟩ := ry.keyT e2 ek
      refine ⟨a, _, rfl, DGet.t c hb, .inr ⟨_, .inl c⟩, ?_⟩
      rw [look_zip]
      exact r.look
  unfold dGet at h
  split at h
  · exact kk rfl rfl h
  · exact kk rfl rfl h
  · exact kt rfl rfl h
  · exact kt rfl rfl h
  · cases h
end
def rIxA (K : PySem.W.Frag) : R2 := fun x y H Q => rIx K x y H Q ∨ ∃ a v, x = .ref a ∧ DGet H a y (some v) ∧ Q v H
theorem ix_dict {X : Cx} (hu : X.A.units + 1 < cLine) : IxR X (fun x y H Q => ∃ a v, x = .ref a ∧ DGet H a y (some v) ∧ Q v H) := by
  intro value slice pins s σ H x y v u Q I rx ry h hs
  obtain ⟨a, r, rfl, g, q⟩ := h
  obtain rfl : v = Value.ref a := rx
  exact PyProof.Rows.tail_any (dict_typeIs I g) slot_dict_getitem.lookup (d_getItem hu I g ry fun w' s3 I3 rw' => ⟨r, H, I3, rw', q⟩) hs
theorem ix_all {X : Cx} (hu : X.A.units + 65 < cLine) : IxR X (rIxA X.K) := ix_seq.or (ix_dict (by omega))
def ixA (t u : T) (Q : T → Prop) : Prop := match t with
  | .fz (.nd (.dK ks) ds) => ∃ d, dGet (.fz (.nd (.dK ks) ds)) u = some (some d) ∧ Q (.fz d)
  | .fz (.nd (.dT ks) ds) => ∃ d, dGet (.fz (.nd (.dT ks) ds)) u = some (some d) ∧ Q (.fz d)
  | .ow (.dK ks) ds => ∃ d, dGet (.ow (.dK ks) ds) u = some (some d) ∧ Q (.fz d)
  | .ow (.dT ks) ds => ∃ d, dGet (.ow (.dT ks) ds) u = some (some d) ∧ Q (.fz d)
  | t => ixG t u Q
theorem g_ixA {K : PySem.W.Frag} : Op2 K (rIxA K) ixA := by
  intro H ow n x y t u Q Qv rx ry h k
  have dd : (∃ d, dGet t u = some (some d) ∧ Q (.fz d)) → rIxA K x y H Qv := fun ⟨d, h1, q⟩ => by
    obtain ⟨a, r, rfl, g, _, hr⟩ := dget_of rx ry h1
    rcases hr with ⟨z, _⟩ | ⟨d', v, e1, rfl, rv⟩
    · cases z
    · cases e1
      exact .inr ⟨a, v, rfl, g, k _ _ H ow Stp.refl (Tq.fz_.mpr rv) q⟩
  unfold ixA at h
  split at h
  · exact dd h
  · exact dd h
  · exact dd h
  · exact dd h
  · exact .inl (g_ix H ow n x y t u Q Qv rx ry h k)
def rInB (K : PySem.W.Frag) (neg : Bool) : R2 := fun x y H Q => rInAll K neg x y H Q ∨ (∃ d ds, Dp K H x d ∧ Dp K H y (.tuple ds) ∧ SeqAt.shaped d = true ∧ SeqAt.shaped (.tuple ds) = true ∧ Q (.bl (if neg then !ds.any (fun z => PyData.eqv z d) else ds.any fun z => PyData.eqv z d)) H) ∨
  ∃ a o, y = .ref a ∧ DGet H a x o ∧ Q (.bl (if neg then !o.isSome else o.isSome)) H
theorem op_inT {X : Cx} (hu : X.A.units + 65 < cLine) : OpR X (compareOp .In) (fun x y H Q => ∃ d ds, Dp X.K H x d ∧ Dp X.K H y (.tuple ds) ∧ SeqAt.shaped d = true ∧ SeqAt.shaped (.tuple ds) = true ∧ Q (.bl (ds.any fun z => PyData.eqv z d)) H) := by
  intro pins s σ H x y v u Q I rx ry h
  obtain ⟨d, ds, hd, he, sd, se, q⟩ := h
  obtain ⟨as, r1⟩ := Dp.reads I d x v hd rx
  obtain ⟨bs, r2⟩ := Dp.reads I (.tuple ds) y u he ry
  exact SeqAt.in_tuple_reads r2 r1 (SeqAt.canLay_of_shaped se) (SeqAt.canLay_of_shaped sd) (PyProof.Rows.room_in_shaped sd hu) ⟨.bl _, H, I, rfl, q⟩
theorem op_niT {X : Cx} (hu : X.A.units + 65 < cLine) : OpR X (compareOp .NotIn) (fun x y H Q => ∃ d ds, Dp X.K H x d ∧ Dp X.K H y (.tuple ds) ∧ SeqAt.shaped d = true ∧ SeqAt.shaped (.tuple ds) = true ∧ Q (.bl (!ds.any fun z => PyData.eqv z d)) H) := by
  intro pins s σ H x y v u Q I rx ry h
  obtain ⟨d, ds, hd, he, sd, se, q⟩ := h
  obtain ⟨as, r1⟩ := Dp.reads I d x v hd rx
  obtain ⟨bs, r2⟩ := Dp.reads I (.tuple ds) y u he ry
  exact SeqAt.notIn_tuple_reads r2 r1 (SeqAt.canLay_of_shaped se) (SeqAt.canLay_of_shaped sd) (PyProof.Rows.room_in_shaped sd hu) ⟨.bl _, H, I, rfl, q⟩
theorem op_inDc {X : Cx} (hu : X.A.units + 65 < cLine) : OpR X (compareOp .In) (fun x y H Q => ∃ a o, y = .ref a ∧ DGet H a x o ∧ Q (.bl o.isSome) H) := by
  intro pins s σ H x y v u Q I rx ry ⟨a, o, e, g, q⟩
  subst e
  obtain rfl : u = Value.ref a := ry
  exact d_in (by omega) I g rx fun s3 I3 => ⟨.bl o.isSome, H, I3, rfl, q⟩
theorem op_niDc {X : Cx} (hu : X.A.units + 65 < cLine) : OpR X (compareOp .NotIn) (fun x y H Q => ∃ a o, y = .ref a ∧ DGet H a x o ∧ Q (.bl (!o.isSome)) H) := by
  intro pins s σ H x y v u Q I rx ry ⟨a, o, e, g, q⟩
  subst e
  obtain rfl : u = Value.ref a := ry
  exact d_notIn (by omega) I g rx fun s3 I3 => ⟨.bl (!o.isSome), H, I3, rfl, q⟩
theorem op_inB {X : Cx} (hu : X.A.units + 65 < cLine) : OpR X (compareOp .In) (rInB X.K false) := (op_inAll hu).or (OpR.or (op_inT hu) (op_inDc hu))
theorem op_niB {X : Cx} (hu : X.A.units + 65 < cLine) : OpR X (compareOp .NotIn) (rInB X.K true) := (op_niAll hu).or (OpR.or (op_niT hu) (op_niDc hu))
def inA (neg : Bool) (t u : T) (Q : T → Prop) : Prop := match u with
  | .fz (.nd .tup es) => ((flD t.d && es.all flD) = true ∨ (t.d.pl 63 = true ∧ Dspl 63 es = true)) ∧ Q (.fz (.bl (if neg then !es.any (fun z => eqD z t.d) else es.any fun z => eqD z t.d)))
  | .fz (.nd (.dK ks) ds) => ∃ o, dGet (.fz (.nd (.dK ks) ds)) t = some o ∧ Q (.fz (.bl (if neg then !o.isSome else o.isSome)))
  | .fz (.nd (.dT ks) ds) => ∃ o, dGet (.fz (.nd (.dT ks) ds)) t = some o ∧ Q (.fz (.bl (if neg then !o.isSome else o.isSome)))
  | .ow (.dK ks) ds => ∃ o, dGet (.ow (.dK ks) ds) t = some o ∧ Q (.fz (.bl (if neg then !o.isSome else o.isSome)))
  | .ow (.dT ks) ds => ∃ o, dGet (.ow (.dT ks) ds) t = some o ∧ Q (.fz (.bl (if neg then !o.isSome else o.isSome)))
  | u => inG neg t u Q
theorem g_inA {K : PySem.W.Frag} (neg : Bool) : Op2 K (rInB K neg) (inA neg) := by
  intro H ow n x y t u Q Qv rx ry h k
  have dd : (∃ o, dGet u t = some o ∧ Q (.fz (.bl (if neg then !o.isSome else o.isSome)))) → rInB K neg x y H Qv := fun ⟨o, h1, q⟩ => by
    obtain ⟨a, r, rfl, g, _, hr⟩ := dget_of ry rx h1
    refine .inr (.inr ⟨a, r, rfl, g, k _ _ H ow Stp.refl (Tq.fz_.mpr ?_) q⟩)
    have : r.isSome = o.isSome := by
      rcases hr with ⟨rfl, rfl⟩ | ⟨_, _, rfl, rfl, _⟩ <;> rfl
    rw [this]
    exact .bl _
  unfold inA at h
  split at h
  · rename_i es
    obtain ⟨h1 | h1, q⟩ := h
    · exact .inl (g_in neg H ow n x y t _ Q Qv rx ry ⟨h1, q⟩ k)
    · have p1 : (D.nd .tup es).pl 64 = true := by simpa [D.pl] using h1.2
      have hy := ry.rd
      have d1 := Rp.dp (n := 64) (.nd .tup es) hy p1
      have s1 := D.pl_shaped p1 (Nat.le_refl _)
      refine .inr (.inl ⟨t.d.py, Dspy es, rx.rd.dp _ h1.1, by simpa [D.py] using d1, D.pl_shaped h1.1 (by decide), by simpa [D.py] using s1, k _ _ H ow Stp.refl (Tq.fz_.mpr ?_) q⟩)
      rw [pl_any h1.1 es h1.2]
      exact .bl _
  · exact dd h
  · exact dd h
  · exact dd h
  · exact dd h
  · exact .inl (g_in neg H ow n x y t _ Q Qv rx ry h k)
def rLenB (K : PySem.W.Frag) : List V → Hp → VK → Prop := fun xs H Q => rLenAll K xs H Q ∨ ∃ p kvs, xs = [.ref p] ∧ H p = some (.dK kvs) ∧ Q (.int kvs.length) H
theorem c_lenB {X : Cx} : CallR X (.builtin "len") (rLenB X.K) := by
  intro pins s σ H xs us Q I r h
  rcases h with h | ⟨p, kvs, e, c, q⟩
  · exact c_len pins s σ H xs us Q I r h
  · subst e
    obtain ⟨u, rfl, ru⟩ := vals1 r
    cases ru
    exact d_len I (.inl c) fun t s' I' => ⟨.int kvs.length, H, I', ⟨t, rfl⟩, q⟩
def lenA (t : T) (Q : T → Prop) : Prop := match t with
  | .fz (.nd (.dK ks) ds) => Q (.fz (.int ks.length))
  | .ow (.dK ks) ds => Q (.fz (.int ks.length))
  | t => lenG t Q
theorem g_lenB {K : PySem.W.Frag} : Op1 K (fun x H Q => rLenB K [x] H Q) lenA := by
  intro H ow n x t Q Qv rx h k
  have dd : ∀ {ks : List Key} {ds : List D}, shK t = some (ks, ds) → Q (.fz (.int ks.length)) → rLenB K [x] H Qv := fun {ks ds} e q => by
    obtain ⟨a, vs, rfl, c, hl, hz, r⟩ := rx.dK e
    refine .inr ⟨a, _, rfl, c, k _ _ H ow Stp.refl (Tq.fz_.mpr ?_) q⟩
    rw [List.length_zip, ← hl, Nat.min_self]
    exact .int _
  unfold lenA at h
  split at h
  · exact dd rfl h
  · exact dd rfl h
  · exact .inl (g_len H ow n x t Q Qv rx h k)
section
variable {X : Cx} {W : WX} {M Ma Mb : List Nat} {a b : Expr} {pa pb : SemP} {ra rb : Option Nat} {pos : Pos}
theorem q_ixA (hu : X.A.units + 65 < cLine) (ha : QP X W Ma ra a pa) (hb : QP X W Mb rb b pb) (hs : PlainIx b := by exact fun _ _ => rfl) (hr : okR ra Mb = true := by decide) : QE X W (Ma ++ Mb) (.Subscript a b pos) (s2 pa pb ixA) := q_ixR (ix_all hu) g_ixA ha hb hs hr
theorem q_inA (hu : X.A.units + 65 < cLine) (ha : QP X W Ma ra a pa) (hb : QP X W Mb rb b pb) (hr : okR ra Mb = true := by decide) (hm : behindInMarks .In b = false := by rfl) : QE X W (Ma ++ Mb) (.Compare a [.In] [b] pos) (s2 pa pb (inA false)) := q_cmp (op_inB hu) (g_inA false) ha hb hm hr
theorem q_niA (hu : X.A.units + 65 < cLine) (ha : QP X W Ma ra a pa) (hb : QP X W Mb rb b pb) (hr : okR ra Mb = true := by decide) (hm : behindInMarks .NotIn b = false := by rfl) : QE X W (Ma ++ Mb) (.Compare a [.NotIn] [b] pos) (s2 pa pb (inA true)) := q_cmp (op_niB hu) (g_inA true) ha hb hm hr
theorem t_niA (hu : X.A.units + 65 < cLine) (ha : QP X W Ma ra a pa) (hb : QP X W Mb rb b pb) (hr : okR ra Mb = true := by decide) (hm : behindInMarks .NotIn b = false := by rfl) : QT X W (Ma ++ Mb) (.Compare a [.NotIn] [b] pos) (sT (s2 pa pb (inA true))) := t_cmpR (op_niB hu) (g_inA true) ha hb hm hr
end
end QV

set_option Elab.async false
set_option linter.all false
set_option maxRecDepth 100000
set_option maxHeartbeats 2000000
namespace QV
open PySem PySem.Spec PyProof.Rows L2
inductive LcT (g : SemG) (t : SemT) (q : SemE) (vs : List Nat) (Q : T → Env → Prop) (ds : List D) (env1 : Env) : Prop
  | mk (h : ∃ I : Nat → List T → Env → Prop, I 0 [] env1 ∧
  (∀ j d acc env', ds[j]? = some d → I j acc env' → g d (wipeE env' vs) fun env2 => t env2 (fun b env3 => (b = true → q env3 (fun w env4 => I (j + 1) (acc ++ [w]) (rstE env' vs env4)) noX) ∧ (b = false → I (j + 1) acc (rstE env' vs env3))) noX) ∧ ∀ acc env', I ds.length acc env' → Q (.nd .lst acc) env')
  | no (h : False)
theorem LcT.ex {g : SemG} {t : SemT} {q : SemE} {vs : List Nat} {Q : T → Env → Prop} {ds : List D} {env1 : Env} : LcT g t q vs Q ds env1 → ∃ I : Nat → List T → Env → Prop, I 0 [] env1 ∧
  (∀ j d acc env', ds[j]? = some d → I j acc env' → g d (wipeE env' vs) fun env2 => t env2 (fun b env3 => (b = true → q env3 (fun w env4 => I (j + 1) (acc ++ [w]) (rstE env' vs env4)) noX) ∧ (b = false → I (j + 1) acc (rstE env' vs env3))) noX) ∧ ∀ acc env', I ds.length acc env' → Q (.nd .lst acc) env'
  | .mk h => h
  | .no h => h.elim
def sLcT (qi : SemI) (g : SemG) (t : SemT) (q : SemE) (vs : List Nat) : SemE := fun env Q E => qi env (fun ds env1 => LcT g t q vs Q ds env1) E
theorem LcT.fr {g : SemG} {t : SemT} {q : SemE} {vs : List Nat} {Q : T → Env → Prop} {ds : List D} {env : Env} (ms : List Nat) (I : Nat → List T → List (Option T) → Prop) (h0 : ∃ us, env = putE env ms us ∧ I 0 [] us)
    (hs : ∀ j d acc us, ds[j]? = some d → I j acc us → g d (wipeE (putE env ms us) vs) fun env2 => t env2 (fun b env3 => (b = true → q env3 (fun w env4 => ∃ us', rstE (putE env ms us) vs env4 = putE env ms us' ∧ I (j + 1) (acc ++ [w]) us') noX) ∧ (b = false → ∃ us', rstE (putE env ms us) vs env3 = putE env ms us' ∧ I (j + 1) acc us')) noX) (he : ∀ acc us, I ds.length acc us → Q (.nd .lst acc) (putE env ms us)) : LcT g t q vs Q ds env :=
  .mk ⟨fun j acc e => ∃ us, e = putE env ms us ∧ I j acc us, h0, fun j d acc env' hd ⟨us, e, i⟩ => by subst e; exact hs j d acc us hd i, fun acc env' ⟨us, e, i⟩ => by subst e; exact he acc us i⟩
theorem lcT_run {K : PySem.W.Frag} {W : WX} {Mi Mt Me SS vs : List Nat} {qi : SemI} {g : SemG} {t : SemT} {q : SemE} (hs : ∀ i ∈ SS, i ∈ vs) (hv : ∀ i ∈ vs, i ∉ Mt ++ Me) {σ : L2.St} {H : Hp} {Qv : VK} (h : tQ K W (Mi ++ (Mt ++ Me)) (sLcT qi g t q vs) σ H Qv) :
    tLc (tI K W Mi qi) (tG K SS g) (tT K W0 Mt t) (tQ K W0 Me q) vs σ H Qv := by
  obtain ⟨n, ow, env, Q, E, s, hq, k, x⟩ := h
  refine ⟨n, ow, env, _, E, s, hq, fun J ds H1 ow1 env1 y1 s1 o1 J1 hI => ?_, fun r d H' ow' env' y s' o => x r d H' ow' env' (y.mono subl (Nat.le_refl _)) s' (o.mono subl)⟩
  obtain ⟨I, i0, it, ie⟩ := hI.ex
  intro D hD
  have key : ∀ {H' : Hp} {ow' : Ow}, Stp (Mi ++ (Mt ++ Me)) n H1 ow1 H' ow' → Stp (Mi ++ (Mt ++ Me)) n H ow H' ow' := fun y => y1.trans y subl (fun _ h => h) (Nat.le_refl _) (Nat.le_refl _)
  refine ⟨fun j m H' => m = ds.length - j ∧ j ≤ ds.length ∧ ∃ ow' env' acc us, Stp (Mi ++ (Mt ++ Me)) n H1 ow1 H' ow' ∧ StOk K H' ow' σ env' ∧ Out (Mi ++ (Mt ++ Me)) env1 env' ∧ H' D = some (.lst us) ∧ ow' D = .tm n ∧ (∃ S, Tps K H' ow' (.tm n) us acc S ∧ ¬ S D) ∧ us.length ≤ j ∧ I j acc env',
    ⟨ds.length, by simp, Nat.zero_le _, Ow.put ow1 D (.tm n), env1, [], [], Stp.new hD, s1.stp0 (n := 0) (Stp.new hD), Out.refl, upd_same, put_same, ⟨_, .nil, fun h => h.elim⟩, Nat.le_refl _, i0⟩, ?_⟩
  rintro j m H' ⟨rfl, hj, ow', env', acc, us, y', s', o', hDl, hDo, hr, hl, ij⟩
  by_cases hlt : j < ds.length
  · have hd : ds[j]? = some ds[j] := by simp [hlt]
    refine .inr ⟨J1.go j _ H' ow' y'.fs hd, fun H5 => ∃ ow5 env5 acc5 us5, Stp (Mi ++ (Mt ++ Me)) n H1 ow1 H5 ow5 ∧ StOk K H5 ow5 σ env5 ∧ Out (Mi ++ (Mt ++ Me)) env1 env5 ∧ H5 D = some (.lst us5) ∧ ow5 D = .tm n ∧ (∃ S, Tps K H5 ow5 (.tm n) us5 acc5 S ∧ ¬ S D) ∧ us5.length ≤ j + 1 ∧ I (j + 1) acc5 env5,
      fun H5 ⟨ow5, env5, acc5, us5, q5⟩ => ⟨ds.length - (j + 1), by omega, rfl, hlt, ow5, env5, acc5, us5, q5⟩, fun xv H2 yl => ?_⟩
    obtain ⟨ow2, ex, rx⟩ := J1.yld j _ H' ow' xv H2 y'.fs hd yl
    have y2 : Stp (Mi ++ (Mt ++ Me)) n H' ow' H2 ow2 := ex.stp
    have s2 : StOk K H2 ow2 σ env' := s'.stp0 (n := 0) ex.stp
    refine ⟨ow2, wipeE env' vs, _, _, s2.wipe, rx, it j _ acc env' hd ij, fun σ3 env3 tc oT s3 z3 => ?_⟩
    refine ⟨wipe_tch tc hs, n + 1, ow2, env3, _, noX, s3, z3, fun b H3 ow3 env4 y3 s4 o4 z4 => ?_, xk0⟩
    have hD2 := (ex D _ hDl)
    have hD3 := y3 D _ hD2.1 (by rw [hD2.2, hDo]; exact Nat.lt_succ_self n)
    have hDo3 : ow3 D = .tm n := by rw [hD3.2, hD2.2, hDo]
    have same3 : Same (Bs H' ow') (Bs H3 ow3) := fun a o e => y3.bs a o (y2.bs a o e)
    have y2a : Stp (Mt ++ Me) (n + 1) H' ow' H2 ow2 := ex.stp
    have y3a : Stp (Mt ++ Me) (n + 1) H' ow' H3 ow3 := y2a.trans y3 (fun _ h => h) subl (Nat.le_refl _) (Nat.le_refl _)
    obtain ⟨S, hS, hSD⟩ := hr
    have carry : ∀ {H5 : Hp} {ow5 : Ow}, Stp (Mt ++ Me) (n + 1) H' ow' H5 ow5 → ∃ S, Tps K H5 ow5 (.tm n) us acc S ∧ ¬ S D := fun {H5 ow5} y => ⟨S, hS.car y.bs fun a o _ ea eo => (y.car (l := .tm n) (Nat.lt_succ_self n)).own a o ea eo, hSD⟩
    have y23 : Stp (Mi ++ (Mt ++ Me)) n H' ow' H3 ow3 := y2.trans y3 (fun _ h => h) mem3.2.1 (Nat.le_refl _) (Nat.le_succ _)
    have outs : ∀ {e5 : Env} {H5 : Hp} {ow5 : Ow}, Out (Mt ++ Me) env3 e5 → StOk K H5 ow5 σ3 e5 → Out (Mi ++ (Mt ++ Me)) env1 (rstE env' vs e5) := fun {e5 H5 ow5} oo ss => by
      refine ⟨?_, fun i hi => ?_⟩
      · rw [rstE_len, ss.len, tc.len, wipe_length, ← s'.len, o'.len]
      · rw [← o'.eq i hi]
        by_cases hiv : i ∈ vs
        · by_cases hil : i < env'.length
          · have : ∀ {vs : List Nat}, i ∈ vs → (rstE env' vs e5)[i]? = some ((env'[i]?).getD none) := fun {vs} hm => by
              induction vs with
              | nil => simp at hm
              | cons v vs ih =>
                unfold rstE
                by_cases hv2 : v = i
                · subst hv2
                  exact List.getElem?_set_self (by rw [rstE_len, ss.len, tc.len, wipe_length, ← s'.len]; exact hil)
                · rw [List.getElem?_set_ne hv2]
                  exact ih ((List.mem_cons.mp hm).resolve_left fun z => hv2 z.symm)
            rw [this hiv]
            have e : env'[i]? = some env'[i] := by simp [hil]
            rw [e]
            rfl
          · rw [List.getElem?_eq_none (by rw [rstE_len, ss.len, tc.len, wipe_length, ← s'.len]; omega), List.getElem?_eq_none (by omega)]
        · rw [rstE_out hiv, oo.eq i fun z => hi (subr i z)]
          rw [oT.eq i fun z => hiv (hs i z)]
          exact wipeE_out hiv
    have carV : ∀ {H5 : Hp} {ow5 : Ow}, Stp (Mt ++ Me) (n + 1) H2 ow2 H5 ow5 → ∀ i ∈ vs, Car H2 H5 ow2 ow5 (.sl i) (.sl i) := fun {H5 ow5} yy i hi => yy.car (l := .sl i) (hv i hi)
    cases b with
    | false =>
      refine iteF ?_
      have y3' : Stp (Mt ++ Me) (n + 1) H2 ow2 H3 ow3 := y3.mono subl (Nat.le_refl _)
      exact ⟨ow3, _, acc, us, y'.trans y23 (fun _ h => h) (fun _ h => h) (Nat.le_refl _) (Nat.le_refl _), s2.rst s4 tc hs (carV y3'), outs (o4.mono subl) s4, hD3.1, hDo3, carry y3a, Nat.le_succ_of_le hl, z4.2 rfl⟩
    | true =>
      refine iteT ?_
      refine ⟨n + 1, ow3, env4, _, noX, s4, z4.1 rfl, fun v w H4 ow4 env5 y4 s5 o5 r4 z5 => ?_, xk0⟩
      obtain ⟨S1, r4⟩ := r4
      have hD4 := y4 D _ hD3.1 (by rw [hDo3]; exact Nat.lt_succ_self n)
      have hDo4 : ow4 D = .tm n := by rw [hD4.2, hDo3]
      have y4a : Stp (Mt ++ Me) (n + 1) H' ow' H4 ow4 := y3a.trans y4 (fun _ h => h) subr (Nat.le_refl _) (Nat.le_refl _)
      have same4 : Same (Bs H' ow') (Bs H4 ow4) := fun a o e => y4.bs a o (same3 a o e)
      have oD : Ow.one ow4 n D = .tm n := one_tm hDo4 (Nat.le_refl n)
      have yu : Stp (Mt ++ Me) n H4 ow4 (upd H4 D (.lst (us ++ [v]))) (Ow.one ow4 n) := ⟨fun a o ea pa => by
        have ne : a ≠ D := fun z => by
          rw [z, hDo4] at pa
          exact absurd pa (Nat.lt_irrefl n)
        exact ⟨by rw [upd_ne ne]; exact ea, one_ne fun k z => by rw [z] at pa; exact pa⟩, fun a ws ea => by
        have ne : a ≠ D := fun z => by rw [z, hD4.1] at ea; cases ea
        rw [upd_ne ne]; exact ea⟩
      have y34 : Stp (Mt ++ Me) (n + 1) H2 ow2 H4 ow4 := y3.trans y4 subl subr (Nat.le_refl _) (Nat.le_refl _)
      have y25 : Stp (Mt ++ Me) n H2 ow2 (upd H4 D (.lst (us ++ [v]))) (Ow.one ow4 n) := y34.trans yu (fun _ h => h) (fun _ h => h) (Nat.le_succ _) (Nat.le_refl _)
      have s5u : StOk K (upd H4 D (.lst (us ++ [v]))) (Ow.one ow4 n) σ3 env5 := ⟨s5.len, fun i t e => by
        obtain ⟨w, e1, r⟩ := s5.at_ i t e
        refine ⟨w, e1, Car.tq ⟨yu.bs, fun a o ea eo => ?_⟩ r⟩
        have ne : a ≠ D := fun z => by
          rw [z, hDo4] at eo
          cases eo
        exact ⟨by rw [upd_ne ne]; exact ea, by rw [one_ne fun k z => by rw [eo] at z; cases z]; exact eo⟩⟩
      have carU : ∀ i ∈ vs, Car H2 (upd H4 D (.lst (us ++ [v]))) ow2 (Ow.one ow4 n) (.sl i) (.sl i) := fun i hi => ⟨y25.bs, fun a o ea eo => by
        obtain ⟨e1, e2⟩ := y34 a o ea (by rw [eo]; exact hv i hi)
        have e3 : ow4 a = .sl i := e2.trans eo
        have ne : a ≠ D := fun z => by
          rw [z, hDo4] at e3
          cases e3
        exact ⟨by rw [upd_ne ne]; exact e1, by rw [one_ne fun k z => by rw [e3] at z; cases z]; exact e3⟩⟩
      have yall : Stp (Mi ++ (Mt ++ Me)) n H1 ow1 (upd H4 D (.lst (us ++ [v]))) (Ow.one ow4 n) := (y'.trans y2 (fun _ h => h) (fun _ h => h) (Nat.le_refl _) (Nat.le_refl _)).trans y25 (fun _ h => h) subr (Nat.le_refl _) (Nat.le_refl _)
      have hS4 : Tps K H4 ow4 (.tm n) us acc S := hS.car y4a.bs fun a o _ ea eo => (y4a.car (l := .tm n) (Nat.lt_succ_self n)).own a o ea eo
      have d1 : ∀ b, S1 b → b ≠ D := fun b hb z => by
        have := (r4.there b hb).1
        rw [z, hDo4] at this
        have := Lab.tm.inj this
        omega
      have t1 : Tps K (upd H4 D (.lst (us ++ [v]))) (Ow.one ow4 n) (.tm n) us acc S := hS4.car yu.bs fun a o sa ea eo => ⟨by rw [upd_ne (show a ≠ D from fun z => hSD (by rw [← z]; exact sa))]; exact ea, one_tm eo (Nat.le_refl n)⟩
      have t2 : Tp K (upd H4 D (.lst (us ++ [v]))) (Ow.one ow4 n) (.tm n) v w S1 := r4.car yu.bs fun a o sa ea eo => ⟨by rw [upd_ne (d1 a sa)]; exact ea, one_tm eo (Nat.le_succ n)⟩
      obtain ⟨S', t3, h3⟩ := Tps.snoc t1 t2 fun b hb z => by
        have e1 := (r4.there b hb).1
        have e2 := (hS4.there b z).1
        rw [e1] at e2
        have := Lab.tm.inj e2
        omega
      exact ⟨us, hD4.1, Nat.lt_of_le_of_lt hl (Nat.lt_of_lt_of_le hlt J1.sz), Ow.one ow4 n, _, acc ++ [w], us ++ [v], yall, s2.rst s5u tc hs carU, outs (o4.trans o5 subl subr) s5, upd_same, oD, ⟨S', t3, fun z => by
        rcases h3 D z with z | z
        · exact hSD z
        · exact d1 D z rfl⟩, by rw [List.length_append]; simpa using hl, z5⟩
  · have e : j = ds.length := by omega
    subst e
    obtain ⟨S, hS, hSD⟩ := hr
    exact .inl ⟨J1.stop H' ow' y'.fs, k (.ref D) (.nd .lst acc) H' ow' env' (key y') s' (o1.trans o' subl (fun _ h => h)) ⟨_, .nd (dx := D) ⟨hDl, Nat.le_trans hl J1.sz, trivial⟩ (fun b fb => by
      have eb : b = D := fb
      rw [eb]; exact ⟨hDo, hSD⟩) hS⟩ (ie acc env' ij)⟩
section
variable {X : Cx} {W : WX} {Mi Mt Me M IO SS : List Nat} {elt tg iter e : Expr} {ifs : List Expr} {scope : Scope} {own : List (Str × Nat)} {pos spos py : Pos} {qi : SemI} {g : SemG} {t : SemT} {q : SemE} {y : Str} {i : Nat}
theorem s_setLcT (i : Nat) (hc : X.calm = true) (hN : X.N.Nodup) (hi : QI X W Mi tg iter qi) (ok : BlkOk X.N X.env.scope scope own)
    (hg : ∀ (s : Shared) (H : Hp) (C : Addr) (cl : List (Str × Addr)) (fp : List Addr), QG (X.blk s H scope (compEnvC scope cl C X.env) fp) SS tg g) (ht : ∀ (s : Shared) (H : Hp) (C : Addr) (cl : List (Str × Addr)) (fp : List Addr), QTs (X.blk s H scope (compEnvC scope cl C X.env) fp) W0 Mt ifs t)
    (he : ∀ (s : Shared) (H : Hp) (C : Addr) (cl : List (Str × Addr)) (fp : List Addr), QE (X.blk s H scope (compEnvC scope cl C X.env) fp) W0 Me elt q) (hy : X.N[i]? = some y := by rfl) (hyl : X.env.scope.names.lookup y = some .local := by rfl)
    (hsw : swapsWith (.ListComp elt [⟨tg, iter, ifs, 0⟩] scope pos) (some (.Name y py)) spos.line X.env = pure true := by exact sw_true rfl rfl rfl (by decide +kernel)) (hs : ∀ i ∈ SS, i ∈ own.map (·.2) := by decide) (hv : ∀ i ∈ own.map (·.2), i ∉ Mt ++ Me := by decide) (hio : i ∉ IO := by decide)
    (hf : ∀ x, foldedSetIterable iter X.env x = pure x := by intro _; rfl) : QS X W IO (.Assign [.Name y py] (.ListComp elt [⟨tg, iter, ifs, 0⟩] scope pos) spos) (sSet i (sLcT qi g t q (own.map (·.2)))) :=
  ⟨PS_imp (ps_setLc hc hN hy hyl hsw hi.run ok (fun s H C cl fp => (hg s H C cl fp).run) (fun s H C cl fp => (ht s H C cl fp).run) (fun s H C cl fp => (he s H C cl fp).run) hf) fun _ _ _ h => set_run (M := Mi ++ (Mt ++ Me)) hio h fun _ z => lcT_run hs hv z⟩
end
end QV

set_option Elab.async false
set_option linter.all false
set_option maxRecDepth 100000
set_option maxHeartbeats 2000000
namespace QV
open PySem PySem.Spec PyProof.Rows L2
def hasK (ks : List Key) (k : Key) : Bool := ks.any fun x => decide (x = k)
def putKs (ks : List Key) (k : Key) : List Key := if hasK ks k = true then ks else ks ++ [k]
def putVs {α : Type} (ks : List Key) (vs : List α) (k : Key) (v : α) : List α := if hasK ks k = true then (ks.zip vs).map (fun p => if p.1 = k then v else p.2) else vs ++ [v]
theorem zip_any {α : Type} {k : Key} : ∀ {ks : List Key} {vs : List α}, ks.length = vs.length → ((ks.zip vs).any fun kv => decide (kv.1 = k)) = hasK ks k
  | [], [], _ => rfl
  | k0 :: ks, v0 :: vs, h => by
    have ih := zip_any (k := k) (ks := ks) (vs := vs) (by simpa using h)
    unfold hasK at ih ⊢
    rw [List.zip_cons_cons, List.any_cons, List.any_cons, ih]
theorem zip_map {α : Type} {k : Key} {v : α} : ∀ {ks : List Key} {vs : List α}, ks.length = vs.length → (ks.zip vs).map (fun kv => if kv.1 = k then (kv.1, v) else kv) = ks.zip ((ks.zip vs).map fun p => if p.1 = k then v else p.2)
  | [], [], _ => rfl
  | k0 :: ks, v0 :: vs, h => by
    rw [List.zip_cons_cons, List.map_cons, List.map_cons, List.zip_cons_cons, zip_map (by simpa using h)]
    by_cases e : k0 = k <;> simp [e]
theorem put_zip {k : Key} {ks : List Key} {vs : List V} {v : V} (h : ks.length = vs.length) : putK (ks.zip vs) k v = (putKs ks k).zip (putVs ks vs k v) := by
  unfold putK putKs putVs
  rw [zip_any h]
  by_cases e : hasK ks k = true
  · rw [if_pos e, if_pos e, if_pos e]
    exact zip_map h
  · rw [if_neg e, if_neg e, if_neg e, List.zip_append h]
    rfl
theorem put_len {α : Type} {k : Key} {ks : List Key} {vs : List α} {v : α} (h : ks.length = vs.length) : (putKs ks k).length = (putVs ks vs k v).length := by
  unfold putKs putVs
  by_cases e : hasK ks k = true
  · rw [if_pos e, if_pos e, List.length_map, List.length_zip]; omega
  · rw [if_neg e, if_neg e, List.length_append, List.length_append, h]; rfl
section
variable {K : PySem.W.Frag} {B H : Hp} {ow : Ow} {σ : L2.St} {env : Env} {i n : Nat}
theorem rps_map {k : Key} {v : V} {d : D} (rv : Rp K B v d) : ∀ {ks : List Key} {vs : List V} {ds : List D}, Rps K B vs ds → Rps K B ((ks.zip vs).map fun p => if p.1 = k then v else p.2) ((ks.zip ds).map fun p => if p.1 = k then d else p.2)
  | [], _, _, _ => by simp; exact .nil
  | k0 :: ks, [], [], .nil => by simp; exact .nil
  | k0 :: ks, _ :: _, _ :: _, .cons r s => by
    rw [List.zip_cons_cons, List.zip_cons_cons, List.map_cons, List.map_cons]
    refine .cons ?_ (rps_map rv s)
    by_cases e : k0 = k
    · simp only [e, if_true]; exact rv
    · simp only [e, if_false]; exact r
theorem rps_put {k : Key} {v : V} {d : D} {ks : List Key} {vs : List V} {ds : List D} (rv : Rp K B v d) (r : Rps K B vs ds) : Rps K B (putVs ks vs k v) (putVs ks ds k d) := by
  unfold putVs
  by_cases e : hasK ks k = true
  · rw [if_pos e, if_pos e]; exact rps_map rv r
  · rw [if_neg e, if_neg e]; exact r.app (.cons rv .nil)
theorem own_atK {ks : List Key} {ds : List D} (s : StOk K H ow σ env) (e : env[i]? = some (some (.ow (.dK ks) ds))) : ∃ a vs, σ[i]? = some (some (.ref a)) ∧ H a = some (.dK (ks.zip vs)) ∧ ks.length = vs.length ∧ vs.length ≤ sizeLine ∧ Rps K (Bs H ow) vs ds ∧ ow a = .sl i := by
  obtain ⟨v, e1, S, r⟩ := s.at_ i _ e
  cases r with
  | ow c f r => exact ⟨_, _, e1, c.at_, c.fit, c.sz, r, f _ rfl⟩
theorem own_setK {a : Addr} {ks' : List Key} {ds' : List D} {vs' : List V} (hc : ∀ ws, H a ≠ some (.tup ws)) (s : StOk K H ow σ env) (e1 : σ[i]? = some (some (.ref a))) (eo : ow a = .sl i) (hz : vs'.length ≤ sizeLine) (hf : ks'.length = vs'.length) (r : Rps K (Bs H ow) vs' ds') :
    Stp [i] n H ow (upd H a (.dK (ks'.zip vs'))) ow ∧ StOk K (upd H a (.dK (ks'.zip vs'))) ow σ (env.set i (some (.ow (.dK ks') ds'))) ∧ Out [i] env (env.set i (some (.ow (.dK ks') ds'))) := by
  have y : ∀ {m : Nat}, Stp [i] m H ow (upd H a (.dK (ks'.zip vs'))) ow := fun {m} => ⟨fun b o e q => by
    have ne : b ≠ a := fun z => by
      rw [z, eo] at q
      exact absurd (show i ∈ [i] by simp) q
    exact ⟨by rw [upd_ne ne]; exact e, rfl⟩, fun b ws e => by
    have ne : b ≠ a := fun z => hc ws (z ▸ e)
    rw [upd_ne ne]; exact e⟩
  refine ⟨y, s.stp (y (m := 0)) Out.set1 fun j t hj e => ?_, Out.set1⟩
  have ej : j = i := by simpa using hj
  subst ej
  have hl : j < env.length := by
    rw [s.len]
    exact (List.getElem?_eq_some_iff.mp e1).1
  rw [List.getElem?_set_self hl] at e
  cases e
  exact ⟨_, e1, _, .ow (k := .dK ks') (dx := a) ⟨upd_same, hz, hf⟩ (fun b fb => by
    have eb : b = a := fb
    rw [eb]; exact eo) (r.mono (y (m := 0)).bs)⟩
end
def isDct : Option (Option T) → Bool
  | some (some (.ow (.dK _) _)) => true
  | _ => false
def sDSt (i : Nat) (q qi : SemE) : SemS := fun D env => q env (fun t env1 => match t with
  | .fz d => isDct env1[i]? = true ∧ qi env1 (fun u env2 => match u, env2[i]? with
    | .fz (.int k), some (some (.ow (.dK ks) ds)) => ks.length < sizeLine ∧ D.nx (env2.set i (some (.ow (.dK (putKs ks (.inl k))) (putVs ks ds (.inl k) d))))
    | _, _ => False) D.ex
  | _ => False) D.ex
section
variable {X : Cx} {W : WX} {Ma Mb IO : List Nat} {e ix : Expr} {q qi : SemE} {x : Str} {px tpos pos : Pos}
theorem ty_dct {K : PySem.W.Frag} {H : Hp} {ow : Ow} {σ : L2.St} {env : Env} {i : Nat} (s : StOk K H ow σ env) (h : isDct env[i]? = true) : ∃ a : Addr, σ[i]? = some (some (.ref a)) := by
  unfold isDct at h
  split at h
  · rename_i ks ds e
    obtain ⟨a, _, e1, _⟩ := own_atK s e
    exact ⟨a, e1⟩
  · cases h
theorem s_dput (i : Nat) (hu : X.A.units + 65 < cLine) (he : QE X W Ma e q) (hix : QE X W Mb ix qi) (hN : X.N[i]? = some x := by rfl) (hv : Vis X.env.scope x := by first | exact Or.inl rfl | exact Or.inr (Or.inl rfl) | exact Or.inr (Or.inr rfl)) (hd : (x == ("__debug__" : Str)) = false := by decide)
    (hcd : (x == ("__classdict__" : Str)) = false := by decide) (hs : swapsWith e (some (.Subscript (.Name x px) ix tpos)) pos.line X.env = pure false := by rfl) : QS X W IO (.Assign [.Subscript (.Name x px) ix tpos] e pos) (sDSt i q qi) :=
  ⟨PS_imp (ps_dput (by omega) (pe_var (i := i) hN hv hd hcd) hix.run he.run hs) fun D σ H ⟨ow, env, De, s, hq, k⟩ => ⟨0, ow, env, _, De.ex, s, hq, fun v t H1 ow1 env1 y1 s1 _ r1 z => by
    split at z
    · rename_i d
      obtain ⟨hl, z⟩ := z
      obtain ⟨a, e1⟩ := ty_dct s1 hl
      refine ⟨.ref a, e1, 1, ow1, env1, _, De.ex, s1, z, fun w u H2 ow2 env2 y2 s2 _ r2 z2 => ?_, (k.ex.step y1.fs Ios.refl).xk⟩
      split at z2
      · rename_i kk ks ds e2
        obtain ⟨hj, z2⟩ := z2
        obtain ⟨a', us, e3, c, hf, hz, rr, eo⟩ := own_atK s2 e2
        rw [e1] at e3
        cases e3
        have ew := Tq.rd r2
        cases ew
        have rd := (Tq.fz_.mp r1).mono y2.bs
        have hlen := put_len (k := .inl kk) (v := v) hf
        refine ⟨a, _, rfl, DPut.k (k := .inl kk) c (by rw [List.length_zip]; omega), ?_⟩
        rw [put_zip hf]
        obtain ⟨y3, s3, _⟩ := own_setK (n := 0) (ks' := putKs ks (.inl kk)) (fun ws z => by rw [c] at z; cases z) s2 e1 eo (by
          rw [← hlen]; unfold putKs
          split
          · omega
          · rw [List.length_append]; exact hj) hlen (rps_put rd rr)
        exact k.nx _ _ _ _ ((y1.fs.trans y2.fs).trans y3.fs) Ios.refl s3 z2
      · exact z2.elim
    · exact z.elim, k.ex.xk⟩⟩
end
end QV

set_option Elab.async false
set_option linter.all false
set_option maxRecDepth 100000
set_option maxHeartbeats 2000000
namespace QV
open PySem PySem.Spec PyProof.Rows L2
def dd (ns : List Int) : List Int := PyProof.Rows.firstMet (fun i => ns.getD i 0) ns.length
section
variable {X : Cx} {W : WX} {M : List Nat} {root : Option Nat} {pa : SemP}
end
end QV

set_option Elab.async false
set_option linter.all false
set_option maxRecDepth 100000
set_option maxHeartbeats 2000000
namespace QV
open PySem L2
end QV

set_option Elab.async false
set_option linter.all false
set_option maxRecDepth 100000
set_option maxHeartbeats 2000000
namespace L2
open PySem PySem.Spec PyProof.Rows
theorem mergeK_fresh : ∀ (more kvs : List (Key × V)), ((kvs ++ more).map (·.1)).Nodup → mergeK kvs more = kvs ++ more
  | [], kvs, _ => by simp [mergeK]
  | p :: r, kvs, h => by
    have hv : valV kvs p.1 = none := by
      rw [List.map_append, List.map_cons] at h
      have h1 := (List.nodup_append.mp h).2.2
      cases e : valV kvs p.1 with
      | none => rfl
      | some v =>
        exfalso
        have hm : p.1 ∈ kvs.map (·.1) := by
          clear h h1
          induction kvs with
          | nil => cases e
          | cons q kvs ih =>
            by_cases z : q.1 = p.1
            · rw [← z]; simp
            · rw [valV_neg z] at e
              exact List.mem_cons_of_mem _ (ih e)
        exact h1 p.1 hm p.1 (by simp) rfl
    show mergeK (putK kvs p.1 p.2) r = _
    rw [putK_new p.2 hv, mergeK_fresh r (kvs ++ [(p.1, p.2)]) (by simpa using h)]
    simp
theorem mergeK_nil {more : List (Key × V)} (h : (more.map (·.1)).Nodup) : mergeK [] more = more := by
  rw [mergeK_fresh more [] (by simpa using h), List.nil_append]
section
variable {X : Cx}
def rUpd : V → List V → Hp → VK → Prop := fun x xs H Q => ∃ a b kvs more, x = V.ref a ∧ xs = [V.ref b] ∧ a ≠ b ∧ H a = some (.dK kvs) ∧ H b = some (.dK more) ∧ kvs.length + more.length ≤ sizeLine ∧ Q .non (upd H a (.dK (mergeK kvs more)))
theorem mt_upd : MtR X "dict.update" rUpd := by
  intro pins s σ H x xs v us Q I rx rxs h
  obtain ⟨a, b, kvs, more, rfl, rfl, hab, ea, eb, hz, q⟩ := h
  cases rx
  obtain ⟨u, rfl, ru⟩ := vals1 rxs
  cases ru
  obtain ⟨za, hda, va, ra, da⟩ := dk_of I.hok ea
  obtain ⟨zb, hdb, vb, rb, db⟩ := dk_of I.hok eb
  refine call_meetsIn PySem.F.slot_dict_update da.typeIs PySem.F.entry_dict_update (PySem.F.args_dict_update_2 _ _) (meets_dict_update (mixKind X.prog X.w) a b hab hdb) ⟨va, vb, da, db, by rw [← ra.length, ← rb.length]; exact hz, fun h' hd' ho' hs' => ?_⟩
  have he : ∃ q, h'.get? a = some q := let ⟨q, _, _, hq, _⟩ := hd'; ⟨q, hq⟩
  refine ⟨.non, _, d_write (t' := s.toks) I (by rw [ea]; exact True.intro) hs' he (dk_new (Nat.le_trans (length_mergeK more kvs) hz) hda (KV.merge rb ra) hd'), rfl, q⟩
def rSortD : List V → Hp → VK → Prop := fun xs H Q => ∃ (a : Addr) (kvs : List (Key × V)) (ks : List Int), xs = [.ref a] ∧ H a = some (.dK kvs) ∧ kvs.map (·.1) = ks.map Sum.inl ∧
    ∀ (ys : List Int) (p : Addr), ys.Perm ks → ys.Pairwise (· ≤ ·) → H p = none → Q (.ref p) (upd H p (.lst (ys.map V.int)))
theorem cr_sortD (hcalm : X.calm = true) : CallR X (.builtin "sorted") rSortD := by
  intro pins s σ H xs us Q I r q
  obtain ⟨a, kvs, ks, ex, hd, hks, q⟩ := q
  subst ex
  obtain ⟨u, eu, rx⟩ := vals1 r
  subst eu
  cases rx
  obtain ⟨z, lo, vs, rel, dd⟩ := dk_of I.hok hd
  obtain ⟨ep, hat⟩ := dd.dictAt
  have hkeys : vs.map (·.1) = ks.map Sum.inl := rel.keys.symm.trans hks
  have hl : vs.length = ks.length := by
    have e := congrArg List.length hkeys
    rw [List.length_map, List.length_map] at e
    exact e
  have h16 : vs.length ≤ sizeLine := by rw [← rel.length]; exact z
  refine Calls.call_function_entry PyProof.Rows.kind_sorted PyProof.Rows.plain_sorted PyProof.Rows.entry_sorted (PyProof.Rows.args_sorted1 _) ?_
  unfold Builtin.«sorted»
  refine wpAny_bind (m := checkCount "sorted" 1 1 _) (wpAny_pure ?_)
  refine wpAny_bind (PySem.W.kdu_collect (A := X.A.in1) (PySem.W.kdl_dict (knd := mixKind X.prog X.w) (kvs := vs) (ep := ep) lo) (I.ok.hd hcalm) hat h16 fun h' tk acc hk hacc => ?_)
  have hal : acc.toList.length = ks.length := by rw [Array.length_toList, hacc.1, hl]
  have hS : IntsAre acc.toList ks := ints_each hal fun j v e => by
    obtain ⟨k, x, e1, e2⟩ := hacc.2 j v (by rw [← Array.getElem?_toList]; exact e)
    have e3 : (vs.map (·.1))[j]? = some k := by rw [List.getElem?_map, e1]; rfl
    rw [hkeys, List.getElem?_map] at e3
    cases e4 : ks[j]? with
    | none => rw [e4] at e3; cases e3
    | some y =>
      rw [e4] at e3
      have e5 : Sum.inl y = k := Option.some.inj e3
      subst e5
      rcases keyIs_shape (show keyIs (Sum.inl y) v = true from e2) with ⟨i, t, ek, ev⟩ | ⟨z, t, ek, ev⟩
      · cases ek
        exact ⟨y, t, rfl, ev⟩
      · cases ek
  have I1 : Inv X pins σ H { s with heap := h', toks := tk } := I.kept hk
  refine wpAny_bind (wpAny_newList ?_ (by rw [hal, ← hl]; exact h16))
  have hoL : (h'.push (seqObj "list" acc.toList.toArray 0)).get? h'.objs.size = some (seqObj "list" acc.toList.toArray 0) := Heap.get?_push_size _ rfl
  show wpAny _ _ _ _ _ { s with heap := h'.push (seqObj "list" acc.toList.toArray 0), toks := tk }
  refine wpAny_bind (wpAny_holding (wpAny_call_entry PyProof.Rows.slot_list_sort ⟨_, hoL, rfl⟩ PyProof.Rows.entry_list_sort
    (SrtO.list_sort_ord SrtO.swo_int hoL (by rw [hal, ← hl]; exact h16) (fun h2 => SrtO.ints_sortable hS h2) fun out h1 h2 => ⟨_, rfl, ?_⟩) (PyProof.Rows.args_list_sort _)))
  obtain ⟨k1, k2, k3⟩ := SrtO.ints_out hS h1 h2
  obtain ⟨e', he'⟩ := PyProof.Rows.sortedHeap_at (vs := acc.toList) (out := out.toArray) hoL
  have hlen : ((out.map SrtO.iv).map V.int).length ≤ sizeLine := by
    rw [List.length_map, k2.length_eq, ← hl]
    exact h16
  refine wpAny_pure ⟨_, rfl, .ref h'.objs.size, upd H h'.objs.size (.lst ((out.map SrtO.iv).map V.int)), I1.laid (t' := tk) (fun b u e => ?_) (Nat.le_refl _)
    (show ObjOk X.prog X.w _ _ _ (.lst ((out.map SrtO.iv).map V.int)) from ⟨hlen, out, e', vals_of_ints k1, he'⟩), rfl, q _ _ k2 k3 (I1.hok.fresh (Nat.le_refl _))⟩
  have hb : b < h'.objs.size := Heap.lt_size e
  rw [PyProof.Rows.sortedHeap_old (Nat.ne_of_lt hb) (by rw [size_push']; exact Nat.lt_succ_of_lt hb)]
  exact Heap.get?_push_of_some _ e
end
end L2
namespace QV
open PySem PySem.Spec PyProof.Rows L2
def isDT : T → Bool
  | .fz (.nd (.dK _) _) => true
  | .ow (.dK _) _ => true
  | .fz (.nd (.dT _) _) => true
  | .ow (.dT _) _ => true
  | _ => false
theorem isD_of {K : PySem.W.Frag} {H : Hp} {ow : Ow} {x : V} {t : T} (h : Ro K H ow x t) (e : isDT t = true) : ∃ a, x = .ref a ∧ IsD H a := by
  unfold isDT at e
  split at e
  · obtain ⟨a, vs, rfl, c, _⟩ := h.dK rfl; exact ⟨a, rfl, .inl ⟨_, .inl c⟩⟩
  · obtain ⟨a, vs, rfl, c, _⟩ := h.dK rfl; exact ⟨a, rfl, .inl ⟨_, .inl c⟩⟩
  · obtain ⟨a, vs, rfl, c, _⟩ := h.dT rfl; exact ⟨a, rfl, .inr ⟨_, .inl c⟩⟩
  · obtain ⟨a, vs, rfl, c, _⟩ := h.dT rfl; exact ⟨a, rfl, .inr ⟨_, .inl c⟩⟩
  · cases e
def sGet1 (pa : SemP) (qb : SemE) : SemE := fun env Q E => pa env (fun t _ env1 => isDT t = true ∧ qb env1 (fun u env2 => ∃ o, dGet t u = some o ∧ Q (.fz (o.getD .non)) env2) E) E
def sGet2 (pa : SemP) (qb qc : SemE) : SemE := fun env Q E => pa env (fun t _ env1 => isDT t = true ∧ qb env1 (fun u env2 => qc env2 (fun w env3 => match w with
  | .fz d => ∃ o, dGet t u = some o ∧ Q (.fz (o.getD d)) env3
  | _ => False) E) E) E
section
variable {X : Cx} {W : WX} {M Ma Mb Mc : List Nat} {o e f : Expr} {pa : SemP} {qb qc : SemE} {ra : Option Nat} {apos cpos : Pos}
theorem q_dget1 (hu : X.A.units + 65 < cLine) (ho : QP X W Ma ra o pa) (he : QE X W Mb e qb) (hr : okR ra Mb = true := by decide) (m : M1 X o "get" apos e cpos := by exact ⟨rfl, rfl, rfl, rfl⟩) : QE X W (Ma ++ Mb) (.Call (.Attribute o "get" apos) [e] [] cpos) (sGet1 pa qb) :=
  ⟨PE_imp (pe_dget1 (by omega) ho.run he.run m) fun σ H Qv ⟨n, ow, env, Q, E, s, hq, k, x⟩ => ⟨n, ow, env, _, E, s, hq, fun v t pt H1 ow1 env1 y1 s1 o1 r1 ⟨hd, z1⟩ => by
    obtain ⟨a, rfl, hD⟩ := isD_of (r1.ro s1) hd
    refine ⟨a, rfl, hD, n + 1, ow1, env1, _, E, s1, z1, fun w u H2 ow2 env2 y2 s2 o2 r2 z2 => ?_, x.step y1 o1 subl subr (Nat.le_refl _) (Nat.le_succ _)⟩
    obtain ⟨o, eo, q⟩ := z2
    obtain ⟨a', r, ea, g, _, hr'⟩ := dget_of ((r1.stp y2 o2 hr (Nat.lt_succ_self _)).ro s2) ⟨_, r2⟩ eo
    cases ea
    refine ⟨r, g, k _ (.fz (o.getD .non)) H2 ow2 env2 (y1.trans y2 subl subr (Nat.le_refl _) (Nat.le_succ _)) s2 (o1.trans o2 subl subr) (Tq.fz_.mpr ?_) q⟩
    rcases hr' with ⟨rfl, rfl⟩ | ⟨d, v, rfl, rfl, rv⟩
    · exact .non
    · exact rv, fun r d H' ow' env' y s' o => x r d H' ow' env' (y.mono subl (Nat.le_refl _)) s' (o.mono subl)⟩⟩
theorem q_dget2 (hu : X.A.units + 65 < cLine) (ho : QP X W Ma ra o pa) (he : QE X W Mb e qb) (hf : QE X W Mc f qc) (hr : okR ra (Mb ++ Mc) = true := by decide) (m : M2 X o "get" apos e f cpos := by exact ⟨rfl, rfl, rfl, rfl⟩) : QE X W (Ma ++ (Mb ++ Mc)) (.Call (.Attribute o "get" apos) [e, f] [] cpos) (sGet2 pa qb qc) :=
  ⟨PE_imp (pe_dget2 (by omega) ho.run he.run hf.run m) fun σ H Qv ⟨n, ow, env, Q, E, s, hq, k, x⟩ => ⟨n, ow, env, _, E, s, hq, fun v t pt H1 ow1 env1 y1 s1 o1 r1 ⟨hd, z1⟩ => by
    obtain ⟨a, rfl, hD⟩ := isD_of (r1.ro s1) hd
    have x1 : Xk X.K W (Mb ++ Mc) σ H1 (n + 1) ow1 env1 E := x.step y1 o1 subl subr (Nat.le_refl _) (Nat.le_succ _)
    refine ⟨a, rfl, hD, n + 1, ow1, env1, _, E, s1, z1, fun w u H2 ow2 env2 y2 s2 o2 r2 z2 => ?_, fun r d H' ow' env' y s' o => x1 r d H' ow' env' (y.mono subl (Nat.le_refl _)) s' (o.mono subl)⟩
    refine ⟨n + 2, ow2, env2, _, E, s2, z2, fun w3 u3 H3 ow3 env3 y3 s3 o3 r3 z3 => ?_, x1.step y2 o2 subl subr (Nat.le_refl _) (Nat.le_succ _)⟩
    split at z3
    · rename_i d
      obtain ⟨o, eo, q⟩ := z3
      have y23 : Stp (Mb ++ Mc) (n + 1) H1 ow1 H3 ow3 := y2.trans y3 subl subr (Nat.le_refl _) (Nat.le_succ _)
      have o23 : Out (Mb ++ Mc) env1 env3 := o2.trans o3 subl subr
      obtain ⟨a', r, ea, g, _, hr'⟩ := dget_of ((r1.stp y23 o23 hr (Nat.lt_succ_self _)).ro s3) ⟨_, (y3.car (l := .tm (n + 1)) (Nat.lt_succ_self _)).tq r2⟩ eo
      cases ea
      refine ⟨r, g, k _ (.fz (o.getD d)) H3 ow3 env3 (y1.trans y23 subl subr (Nat.le_refl _) (Nat.le_succ _)) s3 (o1.trans o23 subl subr) (Tq.fz_.mpr ?_) q⟩
      rcases hr' with ⟨rfl, rfl⟩ | ⟨d', v, rfl, rfl, rv⟩
      · exact Tq.fz_.mp r3
      · exact rv
    · exact z3.elim, fun r d H' ow' env' y s' o => x r d H' ow' env' (y.mono subl (Nat.le_refl _)) s' (o.mono subl)⟩⟩
end
abbrev SemPr := Env → (List Key → List D → Env → Prop) → XQ → Prop
def tPr (K : PySem.W.Frag) (W : WX) (M : List Nat) (q : SemPr) (σ : L2.St) (H : Hp) (Qv : List (V × V) → Hp → Prop) : Prop := ∃ (n : Nat) (ow : Ow) (env : Env) (Q : List Key → List D → Env → Prop) (E : XQ), StOk K H ow σ env ∧ q env Q E ∧
  (∀ (vs : List V) (ks : List Key) (ds : List D) (H' : Hp) (ow' : Ow) (env' : Env), Stp M n H ow H' ow' → StOk K H' ow' σ env' → Out M env env' → ks.length = vs.length → Rps K (Bs H' ow') vs ds → Q ks ds env' → Qv ((ks.map kV).zip vs) H') ∧ Xk K W M σ H n ow env E
structure QPr (X : Cx) (W : WX) (M : List Nat) (pos : Pos) (ks : List (Option Expr)) (vs : List Expr) (q : SemPr) : Prop where
  run : ∃ trs, PPs X pos ks vs trs ∧ ∀ σ H Qv, tPr X.K W M q σ H Qv → tPairs trs σ H Qv
def sPrN : SemPr := fun env Q _ => Q [] [] env
def sPrC (qk qv : SemE) (qr : SemPr) : SemPr := fun env Q E => qk env (fun t env1 => match keyD t.d with
  | some k => (∃ d, t = .fz d) ∧ qv env1 (fun u env2 => match u with
    | .fz e => qr env2 (fun ks ds env3 => Q (k :: ks) (e :: ds) env3) E
    | _ => False) E
  | none => False) E
def sDis (q : SemPr) : SemE := fun env Q E => q env (fun ks ds env1 => (ks.Nodup ∧ ks.length ≤ 15) ∧ Q (.ow (.dK ks) ds) env1) E
section
variable {X : Cx} {W : WX} {M Ma Mb Mc : List Nat} {o e f : Expr} {ks : List (Option Expr)} {vs : List Expr} {qk qv : SemE} {qr : SemPr} {pos : Pos}
theorem pr_nil : QPr X W [] pos [] [] sPrN := ⟨[], pps_nil, fun σ H Qv ⟨n, ow, env, Q, E, s, hq, k, x⟩ => k [] [] [] H ow env Stp.refl s Out.refl rfl .nil hq⟩
theorem pr_cons (hk : QE X W Ma e qk) (hv : QE X W Mb f qv) (hr : QPr X W Mc pos ks vs qr) : QPr X W (Ma ++ (Mb ++ Mc)) pos (some e :: ks) (f :: vs) (sPrC qk qv qr) := by
  obtain ⟨trs, hp, ht⟩ := hr
  refine ⟨_, pps_cons hk.run hv.run hp, fun σ H Qv ⟨n, ow, env, Q, E, s, hq, k, x⟩ => ⟨n, ow, env, _, E, s, hq, fun v t H1 ow1 env1 y1 s1 o1 r1 z1 => ?_, fun r d H' ow' env' y s' o => x r d H' ow' env' (y.mono subl (Nat.le_refl _)) s' (o.mono subl)⟩⟩
  split at z1
  · rename_i key ek
    obtain ⟨⟨d0, rfl⟩, z1⟩ := z1
    have x1 : Xk X.K W (Mb ++ Mc) σ H1 (n + 1) ow1 env1 E := x.step y1 o1 subl subr (Nat.le_refl _) (Nat.le_succ _)
    refine ⟨n + 1, ow1, env1, _, E, s1, z1, fun w u H2 ow2 env2 y2 s2 o2 r2 z2 => ?_, fun r d H' ow' env' y s' o => x1 r d H' ow' env' (y.mono subl (Nat.le_refl _)) s' (o.mono subl)⟩
    split at z2
    · rename_i d
      refine ht σ H2 _ ⟨n + 2, ow2, env2, _, E, s2, z2, fun vs ks ds H3 ow3 env3 y3 s3 o3 hl rr z3 => ?_, x1.step y2 o2 subl subr (Nat.le_refl _) (Nat.le_succ _)⟩
      have y23 : Stp (Mb ++ Mc) (n + 1) H1 ow1 H3 ow3 := y2.trans y3 subl subr (Nat.le_refl _) (Nat.le_succ _)
      have o23 : Out (Mb ++ Mc) env1 env3 := o2.trans o3 subl subr
      have ev := rp_key (Tq.fz_.mp r1) ek
      subst ev
      have := k (w :: vs) (key :: ks) (d :: ds) H3 ow3 env3 (y1.trans y23 subl subr (Nat.le_refl _) (Nat.le_succ _)) s3 (o1.trans o23 subl subr) (by simp [hl]) (.cons ((Tq.fz_.mp r2).mono y3.bs) rr) z3
      simpa using this
    · exact z2.elim
  · exact z1.elim
theorem q_dis (h : QPr X W M pos ks vs qr) (hall : ks.all (·.isSome) = true := by rfl) (hl : ks.length = vs.length := by rfl) (h0 : ks ≠ [] := by exact fun z => nomatch z) (h15 : ks.length ≤ 15 := by decide) : QE X W M (.Dict ks vs pos) (sDis qr) := by
  obtain ⟨trs, hp, ht⟩ := h
  refine ⟨PE_imp (pe_disp hp hall hl h0 h15) fun σ H Qv ⟨n, ow, env, Q, E, s, hq, k, x⟩ p hpn => ?_⟩
  have y0 : ∀ {m}, Stp ([] : List Nat) m H ow (upd H p (.dK [])) (Ow.put ow p (.tm n)) := fun {m} => Stp.new hpn
  refine ht σ _ _ ⟨n + 1, _, env, _, E, s.stp0 (n := 0) y0, hq, fun vs ks ds H2 ow2 env2 y2 s2 o2 hlen rr z2 => ?_, x.step (n1 := n) (M1 := []) y0 Out.refl nilsub (fun _ h => h) (Nat.le_refl _) (Nat.le_succ _)⟩
  obtain ⟨e2, f2⟩ := y2 p _ upd_same (by rw [put_same]; exact Nat.lt_succ_self n)
  rw [put_same] at f2
  obtain ⟨⟨hnd, h15'⟩, z2⟩ := z2
  have hl2 : (ks.zip vs).map (·.1) = ks := by rw [List.map_fst_zip]; omega
  have y3 : ∀ {M'}, Stp M' n H2 ow2 (upd H2 p (.dK (ks.zip vs))) ow2 := fun {M'} => ⟨fun b o e q => by
    have ne : b ≠ p := fun z => by
      rw [z, f2] at q
      exact Nat.lt_irrefl n q
    exact ⟨by rw [upd_ne ne]; exact e, rfl⟩, fun b ws e => by
    have ne : b ≠ p := fun z => by rw [z, e2] at e; cases e
    rw [upd_ne ne]; exact e⟩
  refine ⟨e2, ks.zip vs, ?_, by rw [List.length_zip]; omega, ?_⟩
  · clear z2 rr hnd hl2 y3 h15'
    induction ks generalizing vs with
    | nil => rfl
    | cons a ks ih =>
      cases vs with
      | nil => simp at hlen
      | cons b vs =>
        simp only [List.map_cons, List.zip_cons_cons]
        rw [ih vs (by simpa using hlen)]
  · rw [mergeK_nil (by rw [hl2]; exact hnd)]
    exact k _ _ _ ow2 env2 (((y0 (m := n)).trans y2 nilsub (fun _ h => h) (Nat.le_refl _) (Nat.le_succ _)).trans (M := M) (y3 (M' := [])) (fun _ h => h) nilsub (Nat.le_refl _) (Nat.le_refl _)) (s2.stp0 y3) o2 ⟨_, .ow (k := .dK ks) (dx := p) ⟨upd_same, by rw [← hlen]; exact Nat.le_trans h15' (by decide), hlen⟩ (fun b fb => by
      have eb : b = p := fb
      rw [eb]; exact f2) (rr.mono (y3 (M' := [])).bs)⟩ z2
end
def mrg {α : Type} : List Key → List α → List Key → List α → List Key × List α
  | ks, vs, l :: ls, w :: ws => mrg (putKs ks l) (putVs ks vs l w) ls ws
  | ks, vs, _, _ => (ks, vs)
theorem mrg_zip : ∀ {ls : List Key} {ws : List V} {ks : List Key} {vs : List V}, ks.length = vs.length → mergeK (ks.zip vs) (ls.zip ws) = (mrg ks vs ls ws).1.zip (mrg ks vs ls ws).2
  | [], ws, ks, vs, h => by simp [mergeK, mrg]
  | l :: ls, [], ks, vs, h => by simp [mergeK, mrg]
  | l :: ls, w :: ws, ks, vs, h => by
    rw [List.zip_cons_cons]
    show mergeK (putK (ks.zip vs) l w) (ls.zip ws) = _
    rw [put_zip h, mrg_zip (put_len h)]
    rfl
theorem mrg_len {α : Type} : ∀ {ls : List Key} {ws : List α} {ks : List Key} {vs : List α}, ks.length = vs.length → (mrg ks vs ls ws).1.length = (mrg ks vs ls ws).2.length
  | [], ws, ks, vs, h => by simpa [mrg] using h
  | l :: ls, [], ks, vs, h => by simpa [mrg] using h
  | l :: ls, w :: ws, ks, vs, h => by
    simp only [mrg]
    exact mrg_len (put_len h)
theorem mrg_keys {α β : Type} : ∀ {ls : List Key} {ws : List α} {xs : List β} {ks : List Key} {vs : List α} {us : List β}, ws.length = xs.length → (mrg ks vs ls ws).1 = (mrg ks us ls xs).1
  | [], ws, xs, ks, vs, us, h => rfl
  | l :: ls, [], [], ks, vs, us, h => rfl
  | l :: ls, w :: ws, x :: xs, ks, vs, us, h => by
    simp only [mrg]
    exact mrg_keys (Nat.succ.inj h)
  | l :: ls, [], _ :: _, ks, vs, us, h => by simp at h
  | l :: ls, _ :: _, [], ks, vs, us, h => by simp at h
theorem rps_mrg {K : PySem.W.Frag} {B : Hp} : ∀ {ls : List Key} {ws : List V} {es : List D} {ks : List Key} {vs : List V} {ds : List D}, Rps K B ws es → Rps K B vs ds → Rps K B (mrg ks vs ls ws).2 (mrg ks ds ls es).2
  | [], ws, es, ks, vs, ds, h, r => by simpa [mrg] using r
  | l :: ls, [], [], ks, vs, ds, .nil, r => by simpa [mrg] using r
  | l :: ls, w :: ws, e :: es, ks, vs, ds, .cons r1 h, r => by
    simp only [mrg]
    exact rps_mrg h (rps_put r1 r)
theorem putKs_len (ks : List Key) (k : Key) : (putKs ks k).length ≤ ks.length + 1 := by
  unfold putKs; split
  · omega
  · simp
theorem mrg_le {α : Type} : ∀ {ls : List Key} {ws : List α} {ks : List Key} {vs : List α}, (mrg ks vs ls ws).1.length ≤ ks.length + ls.length
  | [], ws, ks, vs => by simp [mrg]
  | l :: ls, [], ks, vs => by simp [mrg]
  | l :: ls, w :: ws, ks, vs => by
    have := mrg_le (ls := ls) (ws := ws) (ks := putKs ks l) (vs := putVs ks vs l w)
    have := putKs_len ks l
    simp only [mrg, List.length_cons]; omega
def sDUpd (i : Nat) (qs : SemD) : SemE := fun env Q E => isDct env[i]? = true ∧ qs env (fun ds env1 => match ds, env1[i]? with
  | [.nd (.dK ls) es], some (some (.ow (.dK ks) ds)) => ks.length + ls.length ≤ sizeLine ∧ Q (.fz .non) (env1.set i (some (.ow (.dK (mrg ks ds ls es).1) (mrg ks ds ls es).2)))
  | _, _ => False) E
section
variable {X : Cx} {W : WX} {M : List Nat} {e : Expr} {x : Str} {px : Pos}
theorem q_dupd (i : Nat) {es : List Expr} {ks : List (Option Nat)} {qs : SemD} {apos cpos : Pos} (ha : QA X W M ks (e :: es) qs) (hk : (ks.all fun x => x.isNone) = true := by rfl) (hN : X.N[i]? = some x := by rfl)
    (hv : Vis X.env.scope x := by first | exact Or.inl rfl | exact Or.inr (Or.inl rfl) | exact Or.inr (Or.inr rfl)) (hd : (x == ("__debug__" : Str)) = false := by decide) (hcd : (x == ("__classdict__" : Str)) = false := by decide)
    (hbase : attributeBase (.Name x px) "update" X.env (eval (.Name x px) X.env) = eval (.Name x px) X.env := by rfl)
    (hfew : ((backTo cpos (starEach (e :: es) X.env)).all (fun x => !x.1) && (backToKw cpos (keywordEach [] X.env)).all (fun x => x.1.isSome)
      && decide ((e :: es).length + ([] : List Keyword).length + (if ([] : List Keyword).isEmpty then 0 else 1) < 30)) = true := by rfl)
    (hline : (apos.endLine == cpos.line) = true := by rfl) (hs : starEach (e :: es) X.env = (false, eval e X.env) :: starEach es X.env := by rfl) (hplain : (backTo cpos (starEach es X.env)).any (·.1) = false := by rfl) :
    QE X W (M ++ [i]) (.Call (.Attribute (.Name x px) "update" apos) (e :: es) [] cpos) (sDUpd i qs) :=
  ⟨PE_imp (pe_bm PySem.F.plainAttrs_dict PySem.F.slot_dict_update PySem.F.type_dict_update mt_upd (pe_var (i := i) hN hv hd hcd) ha.run hbase hfew hline hs hplain) fun σ H Qv ⟨n, ow, env, Q, E, s, ⟨h1, hq⟩, k, xx⟩ => by
    obtain ⟨a, e1⟩ := ty_dct s h1
    have ty : tyV X.K "dict" (.ref a) H := by
      unfold isDct at h1
      split at h1
      · rename_i e
        obtain ⟨a', vs', e1', c', _⟩ := own_atK s e
        rw [e1] at e1'
        cases e1'
        exact .inr (.inr (.inl ⟨rfl, .inl ⟨_, c'⟩⟩))
      · cases h1
    refine ⟨.ref a, e1, ty, tA_data hk s hq (fun r d H' ow' env' y s' o => xx r d H' ow' env' (y.mono subl (Nat.le_refl _)) s' (o.mono subl)) fun vs ds H1 ow1 env1 y1 s1 o1 l1 rr z => ?_⟩
    split at z
    · rename_i ls es' ks' ds' ee
      obtain ⟨hz, z⟩ := z
      obtain ⟨a', us, e2, c, hf, hz1, r1, eo⟩ := own_atK s1 ee
      rw [e1] at e2
      cases e2
      cases rr with
      | cons rv rn =>
        cases rn
        obtain ⟨b, ws, rfl, cb, hfb, hzb, rb⟩ := Ro.dK (t := .fz (.nd (.dK ls) es')) ⟨.fr, Tq.fz_.mpr rv⟩ rfl
        have ob : ow1 b = .base := by
          cases rv with
          | cell _ c _ => exact (bs_some c.at_).1.elim id fun ⟨_, z⟩ => nomatch z
        have hab : a ≠ b := fun z => by rw [z, ob] at eo; cases eo
        refine ⟨a, b, _, _, rfl, rfl, hab, c, cb, by rw [List.length_zip, List.length_zip]; omega, ?_⟩
        rw [mrg_zip hf]
        have hk1 : (mrg ks' us ls ws).1 = (mrg ks' ds' ls es').1 := mrg_keys rb.len
        have hl := mrg_len (ls := ls) (ws := ws) hf
        have hle := mrg_le (ls := ls) (ws := ws) (ks := ks') (vs := us)
        rw [hk1] at hl hle ⊢
        obtain ⟨y3, s3, o3⟩ := own_setK (n := n) (ks' := (mrg ks' ds' ls es').1) (ds' := (mrg ks' ds' ls es').2) (fun ws z => by rw [c] at z; cases z) s1 e1 eo (by rw [← hl]; omega) hl (rps_mrg rb r1)
        exact k _ _ _ _ _ (y1.trans y3 subl subr (Nat.le_refl _) (Nat.le_refl _)) s3 (o1.trans o3 subl subr) (Tq.fz_.mpr .non) z
    · exact z.elim⟩
end
def sortDG (t : T) (Q : T → Prop) : Prop := ∃ (ks : List Int) (ds : List D), shK t = some (ks.map Sum.inl, ds) ∧ ∀ ms : List Int, ms.Perm ks → ms.Pairwise (· ≤ ·) → Q (.ow .lst (ms.map .int))
def pairsD : List D → Option (List Key × List D)
  | [] => some ([], [])
  | .nd .tup [a, b] :: ds => match keyD a, pairsD ds with
    | some k, some (ks, es) => some (k :: ks, b :: es)
    | _, _ => none
  | _ => none
def dictPG (t : T) (Q : T → Prop) : Prop := match t with
  | .fz (.nd .lst ps) => ∃ ks ds, pairsD ps = some (ks, ds) ∧ Q (.ow (.dK (mrg [] ([] : List D) ks ds).1) (mrg [] ([] : List D) ks ds).2)
  | .ow .lst ps => ∃ ks ds, pairsD ps = some (ks, ds) ∧ Q (.ow (.dK (mrg [] ([] : List D) ks ds).1) (mrg [] ([] : List D) ks ds).2)
  | _ => False
section
variable {K : PySem.W.Frag} {B : Hp}
theorem pairs_rep : ∀ {vs : List V} {ps : List D} {ks : List Key} {ds : List D}, Rps K B vs ps → pairsD ps = some (ks, ds) → ∃ (as : List Addr) (ws : List V), vs = as.map V.ref ∧ ks.length = ws.length ∧ as.length = ks.length ∧ Rps K B ws ds ∧ Paired (fun p (kv : Key × V) => SqT K B p [kV kv.1, kv.2]) as (ks.zip ws)
  | _, _, ks, ds, .nil, h => by cases h; exact ⟨[], [], rfl, rfl, rfl, .nil, .nil⟩
  | _, _, ks, ds, .cons (v := v) (d := d) (vs := vs) (ds := es) r s, h => by
    unfold pairsD at h
    split at h
    · rename_i hh; cases hh
    · rename_i a b ds' hh
      cases hh
      split at h
      · rename_i k ks' es' e1 e2
        cases h
        obtain ⟨as, ws, rfl, hl, hl2, rr, pp⟩ := pairs_rep s e2
        cases r with
        | tup c z r0 =>
          cases r0 with
          | cons ra rb =>
            cases rb with
            | cons rb rn =>
              cases rn
              have ek := rp_key ra e1
              subst ek
              exact ⟨_ :: as, _ :: ws, rfl, by simp [hl], by simp [hl2], .cons rb rr, .cons (sqT_of c) pp⟩
        | cell hn _ _ => exact absurd rfl hn
      · cases h
    · cases h
end
section
variable {X : Cx} {W : WX} {M : List Nat} {e : Expr} {pa : SemP} {root : Option Nat} {p pos : Pos}
theorem g_sortD {K : PySem.W.Frag} : Op1 K (fun x H Q => rSortD [x] H Q) sortDG := by
  intro H ow n x t Q Qv rx ⟨ks, ds, e1, h⟩ k
  obtain ⟨a, vs, rfl, c, hl, hz, r⟩ := rx.dK e1
  refine ⟨a, _, ks, rfl, c, by rw [List.map_fst_zip (by omega)], fun ys p hp hs hn => ?_⟩
  have hln : (ys.map V.int).length ≤ sizeLine := by rw [List.length_map, hp.length_eq, ← List.length_map (f := (Sum.inl : Int → Key)), hl]; exact hz
  exact k _ _ _ (Ow.put ow p (.tm n)) (Stp.new hn) (Tq.newL hn hln (of_ints ys)) (h ys hp hs)
theorem g_dictP {K : PySem.W.Frag} : Op1 K (fun x H Q => ∃ (a : Addr) (ps : List Addr) (kvs : List (Key × V)), [x] = [V.ref a] ∧ SqL K H a (ps.map V.ref) ∧ Paired (fun p kv => SqT K H p [kV kv.1, kv.2]) ps kvs ∧
    ∀ p, H p = none → Q (.ref p) (upd H p (.dK (mergeK [] kvs)))) dictPG := by
  intro H ow n x t Q Qv rx h k
  have key : ∀ {ps : List D}, shL t = some ps → (∃ ks ds, pairsD ps = some (ks, ds) ∧ Q (.ow (.dK (mrg [] ([] : List D) ks ds).1) (mrg [] ([] : List D) ks ds).2)) → ∃ (a : Addr) (ps : List Addr) (kvs : List (Key × V)), [x] = [V.ref a] ∧ SqL K H a (ps.map V.ref) ∧ Paired (fun p kv => SqT K H p [kV kv.1, kv.2]) ps kvs ∧
    ∀ p, H p = none → Qv (.ref p) (upd H p (.dK (mergeK [] kvs))) := fun {ps} e1 ⟨ks, ds, e2, q⟩ => by
    obtain ⟨a, vs, rfl, c, hz, rr⟩ := rx.lst e1
    obtain ⟨as, ws, rfl, hl, hl2, rd, pp⟩ := pairs_rep rr e2
    refine ⟨a, as, ks.zip ws, rfl, .inl (.inl c), ?_, fun p hn => ?_⟩
    · clear e2 q hz rr c hl2 rd hl k h e1 rx
      generalize ks.zip ws = kw at pp ⊢
      induction pp with
      | nil => exact .nil
      | cons h t ih => exact .cons (sqT_mono (bs_same H ow) h) ih
    · have e0 : mergeK [] (ks.zip ws) = (mrg [] ([] : List V) ks ws).1.zip (mrg [] ([] : List V) ks ws).2 := mrg_zip (ks := []) (vs := []) rfl
      rw [e0, mrg_keys (us := ([] : List D)) (xs := ds) rd.len]
      have hl3 := mrg_len (α := V) (ls := ks) (ws := ws) (ks := []) (vs := []) rfl
      have hle := mrg_le (α := V) (ls := ks) (ws := ws) (ks := []) (vs := [])
      rw [mrg_keys (us := ([] : List D)) (xs := ds) rd.len] at hl3 hle
      have y : ∀ {M m}, Stp M m H ow (upd H p (.dK ((mrg [] ([] : List D) ks ds).1.zip (mrg [] ([] : List V) ks ws).2))) (Ow.put ow p (.tm n)) := fun {M m} => Stp.new hn
      refine k _ _ _ (Ow.put ow p (.tm n)) y ⟨_, .ow (k := .dK (mrg [] ([] : List D) ks ds).1) (dx := p) ⟨upd_same, ?_, hl3⟩ (fun b fb => by
        have eb : b = p := fb
        rw [eb]; exact put_same) ((rps_mrg rd .nil).mono (y (M := []) (m := 0)).bs)⟩ q
      rw [List.length_map] at hz
      simp only [List.length_nil] at hle
      omega
  unfold dictPG at h
  split at h
  · exact key rfl h
  · exact key rfl h
  · exact h.elim
theorem q_sortD (hc : X.calm = true) (hg : Gl X "sorted") (hm : X.mg "sorted" = none) (ha : QP X W M root e pa) (hs : starEach [e] X.env = (false, eval e X.env) :: starEach [] X.env := by rfl) (hpl : (backTo pos (starEach [] X.env)).any (·.1) = false := by rfl) :
    QE X W M (.Call (.Name "sorted" p) [e] [] pos) (s1 pa sortDG) := q_b1 (cr_sortD hc) g_sortD hg hm bt_sorted ha (by decide) (by decide) hs hpl
theorem q_dictP (hc : X.calm = true) (hg : Gl X "dict") (hm : X.mg "dict" = none) (ha : QP X W M root e pa) (hs : starEach [e] X.env = (false, eval e X.env) :: starEach [] X.env := by rfl) (hpl : (backTo pos (starEach [] X.env)).any (·.1) = false := by rfl) :
    QE X W M (.Call (.Name "dict" p) [e] [] pos) (s1 pa dictPG) := q_ty1 (call_dictP hc) g_dictP hg hm (by decide +kernel) ha (by decide) (by decide) hs hpl
end
end QV

set_option Elab.async false
set_option linter.all false
set_option maxRecDepth 100000
set_option maxHeartbeats 2000000
namespace QV
open PySem PySem.Spec PyProof.Rows L2
open Classical in
noncomputable def Ow.mvS (ow : Ow) (S : Addr → Prop) (l : Lab) : Ow := fun b => if S b then l else ow b
theorem mvS_in {ow : Ow} {S : Addr → Prop} {l : Lab} {b : Addr} (h : S b) : Ow.mvS ow S l b = l := if_pos h
theorem mvS_out {ow : Ow} {S : Addr → Prop} {l : Lab} {b : Addr} (h : ¬ S b) : Ow.mvS ow S l b = ow b := if_neg h
abbrev SemGT := List T → Env → (Env → Prop) → Prop
def tGT (K : PySem.W.Frag) (SS : List Nat) (g : SemGT) : TGs := fun vs σ H Q => ∃ (ow : Ow) (env : Env) (ts : List T) (S : Addr → Prop) (k : Env → Prop), StOk K H ow σ env ∧ Tps K H ow (.tm 0) vs ts S ∧ g ts env k ∧
  ∀ σ' env' ow', Stp [] 0 H ow H ow' → Tch SS σ σ' → StOk K H ow' σ' env' → k env' → Q σ' H
structure QGT (X : Cx) (SS : List Nat) (tg : List Expr) (g : SemGT) : Prop where
  run : PGs X tg (tGT X.K SS g)
def gtNil : SemGT := fun ts env k => match ts with
  | [] => k env
  | _ => False
def gtCons (i : Nat) (g : SemGT) : SemGT := fun ts env k => match ts with
  | t :: ts => g ts (env.set i (some t)) k
  | _ => False
theorem mvS_stp {H : Hp} {ow : Ow} {S : Addr → Prop} {l : Lab} {M : List Nat} {n : Nat} (h : ∀ b, S b → ow b = .tm n) : Stp M n H ow H (Ow.mvS ow S l) := ⟨fun a o e q => by
  refine ⟨e, mvS_out fun z => ?_⟩
  rw [h a z] at q
  exact Nat.lt_irrefl n q, fun _ _ e => e⟩
section
variable {X : Cx} {SS S1 S2 IO : List Nat} {es : List Expr} {g : SemGT} {pos : Pos}
theorem gt_nil : QGT X [] [] gtNil := ⟨PGs_imp pgs_nil fun vs σ H Q ⟨ow, env, ts, S, k, s, r, hq, h⟩ => by
  cases r with
  | nil => exact ⟨rfl, h _ _ _ Stp.refl Tch.refl s hq⟩
  | cons _ _ _ => exact hq.elim⟩
theorem gt_cons (i : Nat) {x : Str} {px : Pos} (h2 : QGT X S2 es g) (hN : X.N.Nodup) (hi : X.N[i]? = some x := by rfl) (hx : Loc X.env.scope x := by first | exact Or.inl rfl | exact Or.inr rfl) (hf : X.fn x = true ∨ X.env.scope.names.lookup x = some .local := by first | exact .inl rfl | exact .inr rfl)
    (hs : (assignEach (.Name x px :: es) X.env).map (·.2) = assign (.Name x px) X.env :: (assignEach es X.env).map (·.2) := by rfl) : QGT X ([i] ++ S2) (.Name x px :: es) (gtCons i g) :=
  ⟨PGs_imp (pgs_cons (pg_name (i := i) hN hi hx hf) h2.run hs) fun vs σ H Q ⟨ow, env, ts, S, k, s, r, hq, h⟩ => by
  cases r with
  | nil => exact hq.elim
  | @cons v t vs ts Sa Sb r1 r2 dj =>
    have la : ∀ b, Sa b → ow b = .tm 0 := fun b hb => (r1.there b hb).1
    have bsm : Same (Bs H ow) (Bs H (Ow.mvS ow Sa (.sl i))) := bs_lab fun a e1 => by
      have na : ¬ Sa a := fun z => by rw [la a z] at e1; cases e1
      exact (mvS_out na).trans e1
    have r1' : Tp X.K H (Ow.mvS ow Sa (.sl i)) (.sl i) v t Sa := r1.car bsm fun a o hb e _ => ⟨e, mvS_in hb⟩
    have r2' : Tps X.K H (Ow.mvS ow Sa (.sl i)) (.tm 0) vs ts Sb := r2.car bsm fun a o hb e q => ⟨e, (mvS_out fun z => dj a z hb).trans q⟩
    have y : Stp [] 0 H ow H (Ow.mvS ow Sa (.sl i)) := mvS_stp la
    have s1 := (s.stp0 y).set (i := i) ⟨Sa, r1'⟩
    refine ⟨_, _, rfl, _, env.set i (some t), ts, Sb, k, s1, r2', hq, fun σ' env' ow' y2 t2 s2 z => h σ' env' ow' (y.trans y2 nilsub nilsub (Nat.le_refl _) (Nat.le_refl _)) (Tch.trans (⟨List.length_set, fun j hj => List.getElem?_set_ne fun z => hj (by simp [z])⟩) t2 subl subr) s2 z⟩⟩
def sAsgTT (q : SemE) (n : Nat) (g : SemGT) : SemS := fun D env => q env (fun t env1 => match t with
  | .nd .tup ts => ts.length = n ∧ g ts env1 D.nx
  | _ => False) D.ex
def tGTup (K : PySem.W.Frag) (SS : List Nat) (n : Nat) (g : SemGT) : TG := fun v σ H Q => ∃ (ow : Ow) (env : Env) (ts : List T) (k : Env → Prop), StOk K H ow σ env ∧ Tq K H ow (.tm 0) v (.nd .tup ts) ∧ ts.length = n ∧ g ts env k ∧
  ∀ σ' env' ow', Stp [] 0 H ow H ow' → Tch SS σ σ' → StOk K H ow' σ' env' → k env' → Q σ' H
theorem s_asgTT {W : WX} {M : List Nat} {kx} {q : SemE} {e : Expr} {n : Nat} {tpos : Pos} (hc : X.calm = true) (he : QE X W M e q) (hg : QGT X SS es g) (hn : (assignEach es X.env).length = n := by rfl) (hst : (assignEach es X.env).findIdx? (·.1) = none := by rfl) (hio : ∀ i ∈ IO, i ∉ SS := by decide) (hs : swapsWithSole [.Tuple es kx tpos] e pos.line X.env = pure false := by rfl) (hw : swappedStores [.Tuple es kx tpos] e X.env = pure none := by rfl)
    (h1 : (assignEach [.Tuple es kx tpos] X.env).map (·.2) = [assign (.Tuple es kx tpos) X.env] := by rfl) : QS X W IO (.Assign [.Tuple es kx tpos] e pos) (sAsgTT q n g) :=
  ⟨PS_imp (ps_asg he.run (PG_imp (t' := tGTup X.K SS n g) (pg_tup hc hg.run hn hst) fun v σ H Q ⟨ow, env, ts, k, s, r, hl, hq, h⟩ => by
      obtain ⟨S, r⟩ := r
      cases r with
      | nd c f tp => exact ⟨_, _, rfl, sqT_of c.at_, by rw [tp.len]; exact hl, ow, env, ts, _, k, s, tp, hq, h⟩) hs hw h1) fun D σ H ⟨ow, env, De, s, hq, k⟩ =>
  ⟨0, ow, env, _, De.ex, s, hq, fun v t H' ow' env' y s' _ r z => by
    split at z
    · rename_i ts
      exact ⟨ow', env', ts, _, s', r, z.1, z.2, fun σ2 env2 ow2 y2 i2 s2 z2 => k.nx _ _ _ _ (y.fs.trans y2.fs) (i2.ios hio) s2 z2⟩
    · exact z.elim, k.ex.xk⟩⟩
end
end QV

set_option Elab.async false
set_option linter.all false
set_option maxRecDepth 100000
set_option maxHeartbeats 2000000
namespace QV
open PySem PySem.Spec PyProof.Rows L2
def rEqLen (K : PySem.W.Frag) : R2 := fun x y H Q => ∃ a b xs ys, x = .ref a ∧ y = .ref b ∧ SqL K H a xs ∧ SqL K H b ys ∧ xs.length ≠ ys.length ∧ Q (.bl false) H
theorem op_eqLen {X : Cx} (hu : X.A.units + 64 < cLine) : OpR X (compareOp .Eq) (rEqLen X.K) := by
  intro pins s σ H x y v u Q I rx ry h
  obtain ⟨a, b, xs, ys, rfl, rfl, ha, hb, hne, q⟩ := h
  cases rx
  cases ry
  obtain ⟨its, rv, pl, _⟩ := I.list ha
  obtain ⟨its2, rv2, pl2, _⟩ := I.list hb
  refine PySem.SeqAt.eq_list_lengthsAt pl.isList pl2.isList ?_ (by omega) ⟨.bl false, H, I, rfl, q⟩
  have e1 := rv.length
  have e2 := rv2.length
  simp only [bne_iff_ne, ne_eq, List.size_toArray]
  omega
def eqLG (t u : T) (Q : T → Prop) : Prop := eqG false t u Q ∨ ∃ xs ys, shL t = some xs ∧ shL u = some ys ∧ xs.length ≠ ys.length ∧ Q (.fz (.bl false))
theorem g_eqL {K : PySem.W.Frag} : Op2 K (fun x y H Q => rEqAll K x y H Q ∨ rEqLen K x y H Q) eqLG := by
  intro H ow n x y t u Q Qv rx ry h k
  rcases h with h | ⟨xs, ys, e1, e2, hne, q⟩
  · exact .inl (g_eq H ow n x y t u Q Qv rx ry h k)
  · obtain ⟨a, vs, rfl, c, hz, rr⟩ := rx.lst e1
    obtain ⟨b, ws, rfl, c2, hz2, rr2⟩ := ry.lst e2
    exact .inr ⟨a, b, vs, ws, rfl, rfl, .inl (.inl c), .inl (.inl c2), by rw [rr.len, rr2.len]; exact hne, k _ _ H ow Stp.refl (Tq.fz_.mpr (.bl _)) q⟩
section
variable {X : Cx} {W : WX} {Ma Mb : List Nat} {a b : Expr} {pa pb : SemP} {ra rb : Option Nat} {pos : Pos}
theorem t_eqL (hu : X.A.units + 65 < cLine) (ha : QP X W Ma ra a pa) (hb : QP X W Mb rb b pb) (hr : okR ra Mb = true := by decide) : QT X W (Ma ++ Mb) (.Compare a [.Eq] [b] pos) (sT (s2 pa pb eqLG)) := t_cmpR ((op_eqAll (by omega)).or (op_eqLen (by omega))) g_eqL ha hb (nomark _) hr
end
end QV

set_option Elab.async false
set_option linter.all false
set_option maxRecDepth 100000
set_option maxHeartbeats 2000000
namespace QV
open PySem PySem.Spec PyProof.Rows L2
def keyOf : Key → D
  | .inl i => .int i
  | .inr x => .str x
section
variable {X : Cx} {W : WX} {M : List Nat} {e : Expr} {pa : SemP} {root : Option Nat} {p pos : Pos}
end
end QV

set_option Elab.async false
set_option linter.all false
set_option maxRecDepth 100000
set_option maxHeartbeats 2000000
namespace QV
open PySem PySem.Spec PyProof.Rows L2
mutual
def okD : D → Bool
  | .nd .tup ds => okDs ds
  | .nd .lst [] => true
  | .nd .lst (d :: ds) => !flD0 d && okDs (d :: ds)
  | d => flD0 d
def okDs : List D → Bool
  | [] => true
  | d :: ds => okD d && okDs ds
end
section
variable {K : PySem.W.Frag} {B B' : Hp}
def badO (o : HO) : Prop := ∃ (v : V) (vs : List V), o = .lst (v :: vs) ∧ ∀ a : Addr, v ≠ .ref a
theorem rp_ref {v : V} {d : D} (r : Rp K B v d) (h : flD0 d = false) : ∃ a, v = .ref a := by
  cases r with
  | non => cases h
  | bl b => cases h
  | int i => cases h
  | str x => cases h
  | _ => exact ⟨_, rfl⟩
theorem rp_nref {v : V} {d : D} (r : Rp K B v d) (h : flD0 d = true) : ∀ a : Addr, v ≠ .ref a := by
  cases r with
  | non => intro a e; cases e
  | bl b => intro a e; cases e
  | int i => intro a e; cases e
  | str x => intro a e; cases e
  | _ => cases h
mutual
theorem rp_keep (e : ∀ a o, B a = some o → ¬ badO o → B' a = some o) : ∀ {v : V} {d : D}, Rp K B v d → okD d = true → Rp K B' v d
  | _, _, .non, _ => .non
  | _, _, .bl b, _ => .bl b
  | _, _, .int i, _ => .int i
  | _, _, .str x, _ => .str x
  | _, _, .scr _, h => by simp [okD, flD0] at h
  | _, _, .exc0 _ _, h => by simp [okD, flD0] at h
  | _, _, .exc1 _ _ _, h => by simp [okD, flD0] at h
  | _, _, .tup c z r, h => .tup (e _ _ c fun ⟨_, _, q, _⟩ => nomatch q) z (rps_keep e r (by simpa [okD] using h))
  | _, _, .cell (k := k) (vs := vs) (ds := ds) hk c r, h => by
    cases k with
    | lst =>
      have hb : ¬ badO (.lst vs) := fun ⟨v0, vs0, q, nr⟩ => by
        have q : vs = v0 :: vs0 := by cases q; rfl
        subst q
        cases r with
        | cons r0 rs =>
          simp only [okD, Bool.and_eq_true, Bool.not_eq_true'] at h
          obtain ⟨a, ea⟩ := rp_ref r0 h.1
          exact nr a ea
      refine .cell hk ⟨e _ _ c.at_ hb, c.sz, trivial⟩ (rps_keep e r ?_)
      cases ds with
      | nil => rfl
      | cons d ds => simp only [okD, Bool.and_eq_true] at h; exact h.2
    | tup => exact absurd rfl hk
    | dK ks => simp [okD, flD0] at h
    | dT ks => simp [okD, flD0] at h
    | lkT o ks => simp [okD, flD0] at h
    | lsA b => simp [okD, flD0] at h
    | ins C ks => simp [okD, flD0] at h
theorem rps_keep (e : ∀ a o, B a = some o → ¬ badO o → B' a = some o) : ∀ {vs : List V} {ds : List D}, Rps K B vs ds → okDs ds = true → Rps K B' vs ds
  | _, _, .nil, _ => .nil
  | _, _, .cons r s, h => by
    simp only [okDs, Bool.and_eq_true] at h
    exact .cons (rp_keep e r h.1) (rps_keep e s h.2)
end
end
open Classical in
noncomputable def labV (C : Addr → Prop) (ow : Ow) : Ow := fun a => if ow a = .base ∨ C a then .base else .fr
section
variable {X : Cx} {W : WX} {M : List Nat} {k : Nat} {f : Addr} {fd : FuncData} {ps : List Str} {io cs : List Nat} {spec : SemF} {ks : List (Option Nat)} {e : Expr} {es : List Expr} {qs : SemD} {x : Str} {p pos : Pos}
end
end QV

set_option Elab.async false
set_option linter.all false
set_option maxRecDepth 100000
set_option maxHeartbeats 2000000
namespace QV
open PySem PySem.Spec PyProof.Rows L2
section
variable {X : Cx} {W : WX} {M Ma Mb : List Nat} {k : Nat} {f C : Addr} {fd : FuncData} {ps : List Str} {io : List Nat} {sp : Sp} {spec : SemF} {ks : List (Option Nat)} {o e : Expr} {es : List Expr} {q : SemE} {qs : SemD} {m x : Str} {p pos apos : Pos} {ta : TE} {t : TA} {pa : SemP} {root : Option Nat}
end
end QV

set_option Elab.async false
set_option linter.all false
set_option maxRecDepth 100000
set_option maxHeartbeats 2000000
namespace QV
open PySem PySem.Spec PyProof.Rows L2
section
variable {K : PySem.W.Frag} {B H : Hp} {ow : Ow} {σ : L2.St} {env : Env} {i n : Nat}
end
section
variable {X : Cx} {W : WX} {M Ma Mb IO : List Nat} {k : Nat} {f C : Addr} {fd : FuncData} {ps : List Str} {sp : Sp} {spec : SemF} {ks : List (Option Nat)} {e ix : Expr} {es : List Expr} {q qi : SemE} {qs : SemD} {x m : Str} {px tpos pos p : Pos} {t : TA}
end
section
variable {P : Program} {w : World} {K : PySem.W.Frag} {mg : Str → Option Value} {base : Heap}
end
end QV

set_option Elab.async false
set_option linter.all false
set_option maxRecDepth 100000
set_option maxHeartbeats 2000000
namespace QV
open PySem PySem.Spec PyProof.Rows L2
section
variable {X : Cx} {W : WX} {M IO : List Nat} {a b : Expr} {qs : SemD} {x y : Str} {px py pt pos : Pos} {ks : List (Option Nat)}
end
end QV

set_option Elab.async false
set_option linter.all false
set_option maxRecDepth 100000
set_option maxHeartbeats 2000000
namespace QV
open PySem PySem.Spec PyProof.Rows L2
mutual
def D.px : D → PyData
  | .non => .none
  | .bl b => .bool b
  | .int i => .int i
  | .str x => .str x
  | .nd .tup ds => .tuple (Dpxs ds)
  | .nd .lst ds => .list (Dpxs ds)
  | .nd (.dK []) [] => .dict []
  | _ => .none
def Dpxs : List D → List PyData
  | [] => []
  | d :: ds => D.px d :: Dpxs ds
end
mutual
def D.pt : Nat → D → Bool
  | _, .non => true
  | _, .bl _ => true
  | _, .int _ => true
  | _, .str x => true
  | _ + 1, .nd (.dK []) [] => true
  | n + 1, .nd .tup ds => Dpts n ds
  | n + 1, .nd .lst ds => Dpts n ds
  | _, _ => false
def Dpts : Nat → List D → Bool
  | _, [] => true
  | n, d :: ds => D.pt n d && Dpts n ds
end
mutual
theorem px_depth : ∀ {n : Nat} (d : D), d.pt n = true → d.px.depth ≤ n
  | n, .non, _ => by simp [D.px, PyData.depth]
  | n, .bl b, _ => by simp [D.px, PyData.depth]
  | n, .int i, _ => by simp [D.px, PyData.depth]
  | n, .str x, _ => by simp [D.px, PyData.depth]
  | 0, .nd .tup ds, h => by simp [D.pt] at h
  | n + 1, .nd .tup ds, h => by
    have := pxs_depth (n := n) ds (by simpa [D.pt] using h)
    simp only [D.px, PyData.depth]
    omega
  | 0, .nd (.dK []) [], h => by simp [D.pt] at h
  | n + 1, .nd (.dK []) [], _ => by simp [D.px, PyData.depth, PyData.depthKv]
  | n, .nd (.dK (_ :: _)) _, h => by cases n <;> simp [D.pt] at h
  | n, .nd (.dK []) (_ :: _), h => by cases n <;> simp [D.pt] at h
  | 0, .nd .lst ds, h => by simp [D.pt] at h
  | n + 1, .nd .lst ds, h => by
    have := pxs_depth (n := n) ds (by simpa [D.pt] using h)
    simp only [D.px, PyData.depth]
    omega
  | n, .nd (.dT _) _, h => by cases n <;> simp [D.pt] at h
  | n, .nd (.lkT _ _) _, h => by cases n <;> simp [D.pt] at h
  | n, .nd (.lsA _) _, h => by cases n <;> simp [D.pt] at h
  | n, .nd (.ins _ _) _, h => by cases n <;> simp [D.pt] at h
  | n, .scr _, h => by cases n <;> simp [D.pt] at h
  | n, .exc _ _ _ _ _, h => by cases n <;> simp [D.pt] at h
theorem pxs_depth : ∀ {n : Nat} (ds : List D), Dpts n ds = true → PyData.depthAll (Dpxs ds) ≤ n
  | n, [], _ => by simp [Dpxs, PyData.depthAll]
  | n, d :: ds, h => by
    have h' : D.pt n d = true ∧ Dpts n ds = true := by simpa [Dpts] using h
    have := px_depth d h'.1
    have := pxs_depth ds h'.2
    simp only [Dpxs, PyData.depthAll]
    omega
end
mutual
theorem shrx_ok : ∀ d : D, shrt d = true → d.px.leavesShort 41 = true ∧ d.px.showable = true ∧ d.px.weight ≤ szD d
  | .non, _ => ⟨rfl, rfl, by simp [D.px, PyData.weight]⟩
  | .bl _, _ => ⟨rfl, rfl, by simp [D.px, PyData.weight]⟩
  | .int i, h => by
    have h' : i.natAbs < 10000000000000000000000000000000000000000 := by simpa [shrt] using h
    refine ⟨?_, ?_, ?_⟩
    · simp only [D.px, PyData.leavesShort, decide_eq_true_eq]
      have e := int_text_length_le10 (k := 40) (by decide) (show i.natAbs < 10 ^ 40 by omega)
      have e2 : (PyData.int i).shown.length = (toString i).length := by
        rw [PyData.shown_int]
        exact PySem.ofString_length _
      rw [e2]
      exact e
    · simp only [D.px, PyData.showable, decide_eq_true_eq]
      have := log2_40 h'
      omega
    · simp only [D.px, PyData.weight, szD]
      have := log2_40 h'
      split <;> omega
  | .str x, h => by
    refine ⟨by simpa [D.px, PyData.leavesShort, shrt] using h, rfl, by simp [D.px, PyData.weight, szD]⟩
  | .scr _, _ => ⟨rfl, rfl, by simp [D.px, PyData.weight]⟩
  | .exc _ _ _ _ _, _ => ⟨rfl, rfl, by simp [D.px, PyData.weight]⟩
  | .nd .lst ds, h => by
    obtain ⟨a, b, c⟩ := shrxs_ok ds (by simpa [shrt] using h)
    exact ⟨by simpa [D.px, PyData.leavesShort] using a, by simpa [D.px, PyData.showable] using b, by simpa [D.px, PyData.weight, szD] using c⟩
  | .nd .tup ds, h => by
    obtain ⟨a, b, c⟩ := shrxs_ok ds (by simpa [shrt] using h)
    exact ⟨by simpa [D.px, PyData.leavesShort] using a, by simpa [D.px, PyData.showable] using b, by simpa [D.px, PyData.weight, szD] using c⟩
  | .nd (.dK []) [], _ => ⟨rfl, rfl, by simp [D.px, PyData.weight, PyData.weightKv]⟩
  | .nd (.dK []) (_ :: _), _ => ⟨rfl, rfl, by simp [D.px, PyData.weight]⟩
  | .nd (.dK (_ :: _)) ds, _ => ⟨rfl, rfl, by simp [D.px, PyData.weight]⟩
  | .nd (.dT _) ds, _ => ⟨rfl, rfl, by simp [D.px, PyData.weight]⟩
  | .nd (.lkT _ _) ds, _ => ⟨rfl, rfl, by simp [D.px, PyData.weight]⟩
  | .nd (.lsA _) ds, _ => ⟨rfl, rfl, by simp [D.px, PyData.weight]⟩
  | .nd (.ins _ _) ds, _ => ⟨rfl, rfl, by simp [D.px, PyData.weight]⟩
theorem shrxs_ok : ∀ ds : List D, shrts ds = true → PyData.leavesShortAll 41 (Dpxs ds) = true ∧ PyData.showableAll (Dpxs ds) = true ∧ PyData.weightAll (Dpxs ds) ≤ szDs ds
  | [], _ => ⟨rfl, rfl, by simp [Dpxs, PyData.weightAll]⟩
  | d :: ds, h => by
    have h' : shrt d = true ∧ shrts ds = true := by simpa [shrts] using h
    obtain ⟨a, b, c⟩ := shrx_ok d h'.1
    obtain ⟨a', b', c'⟩ := shrxs_ok ds h'.2
    exact ⟨by simp [Dpxs, PyData.leavesShortAll, a, a'], by simp [Dpxs, PyData.showableAll, b, b'], by simp only [Dpxs, PyData.weightAll, szDs]; omega⟩
end
def Sys (h : Heap) : Prop := ∃ o, h.get? sysModules = some o
section
variable {X : Cx} {pins : List (Addr × Obj)} {σ : L2.St} {H : Hp} {s : Shared}
theorem H_sys (hS : Sys X.base) (I : Inv X pins σ H s) : H sysModules = none := let ⟨o, e⟩ := hS; (I.bs _ o e).2
mutual
theorem px_reads (hS : Sys X.base) (I : Inv X pins σ H s) : ∀ {n : Nat} (d : D) (v : V) (u : Value), Rp X.K H v d → d.pt n = true → RelV v u → ∃ as, Reads s.heap u d.px as ∧ sysModules ∉ as
  | n, .non, _, _, h, _, r => by cases h; cases r; exact ⟨_, Reads.none, by simp⟩
  | n, .bl b, _, _, h, _, r => by cases h; cases r; exact ⟨_, Reads.bool b, by simp⟩
  | n, .int i, _, _, h, _, r => by cases h; obtain ⟨t, rfl⟩ := r; exact ⟨_, Reads.int i t, by simp⟩
  | n, .str x, _, _, h, _, r => by cases h; obtain ⟨t, rfl⟩ := r; exact ⟨_, Reads.str x t, by simp⟩
  | 0, .nd .tup ds, _, _, _, h, _ => by simp [D.pt] at h
  | n + 1, .nd .tup ds, _, _, h, k, r => by
    cases h with
    | tup c z rr =>
      cases r
      obtain ⟨its, rv, ⟨o, ho, hc, m, hd⟩, _⟩ := I.tuple (sqT_of c)
      obtain ⟨as, hr, hn⟩ := pxs_reads hS I (n := n) ds _ its rr (by simpa [D.pt] using k) rv
      exact ⟨_, Reads.tuple ho hc hd hr, hn⟩
    | cell hn _ _ => exact absurd rfl hn
  | n, .nd (.dK []) [], _, _, h, k, r => by
    cases h with
    | cell _ c rr =>
      cases rr
      cases r
      obtain ⟨_, hs, vs, kv, o, es, ep, h1, h2, h3, _, h5, _⟩ := dk_of I.hok c.at_
      have e0 : vs = [] := by
        have := kv.length
        simp at this
        exact List.eq_nil_of_length_eq_zero this.symm
      subst e0
      have e1 : es.toList = [] := by
        generalize es.toList = l at h5
        cases h5
        rfl
      refine ⟨_, Reads.dict (kvs := []) h1 h2.1 h3 (by rw [e1]; exact .nil) (by rw [e1]; exact .nil), ?_⟩
      simp
      intro z
      rw [← z] at hs
      simp at hs
  | n, .nd (.dK (_ :: _)) _, _, _, _, h, _ => by cases n <;> simp [D.pt] at h
  | n, .nd (.dK []) (_ :: _), _, _, _, h, _ => by cases n <;> simp [D.pt] at h
  | 0, .nd .lst ds, _, _, _, h, _ => by simp [D.pt] at h
  | n + 1, .nd .lst ds, _, _, h, k, r => by
    cases h with
    | cell _ c rr =>
      cases r
      obtain ⟨its, rv, ⟨o, m, ho, hc, _, hd⟩, _⟩ := I.list (.inl (.inl c.at_))
      obtain ⟨as, hr, hn⟩ := pxs_reads hS I (n := n) ds _ its rr (by simpa [D.pt] using k) rv
      refine ⟨_, Reads.list ho hc hd hr, ?_⟩
      have hs := c.at_
      simp only [List.mem_cons, not_or]
      refine ⟨fun z => ?_, hn⟩
      rw [← z, H_sys hS I] at hs
      cases hs
  | n, .nd (.dT _) _, _, _, _, h, _ => by cases n <;> simp [D.pt] at h
  | n, .nd (.lkT _ _) _, _, _, _, h, _ => by cases n <;> simp [D.pt] at h
  | n, .nd (.lsA _) _, _, _, _, h, _ => by cases n <;> simp [D.pt] at h
  | n, .nd (.ins _ _) _, _, _, _, h, _ => by cases n <;> simp [D.pt] at h
  | n, .scr _, _, _, _, h, _ => by cases n <;> simp [D.pt] at h
  | n, .exc _ _ _ _ _, _, _, _, h, _ => by cases n <;> simp [D.pt] at h
theorem pxs_reads (hS : Sys X.base) (I : Inv X pins σ H s) : ∀ {n : Nat} (ds : List D) (vs : List V) (us : List Value), Rps X.K H vs ds → Dpts n ds = true → Vals vs us → ∃ as, ReadsAll s.heap us (Dpxs ds) as ∧ sysModules ∉ as
  | n, [], _, _, h, _, r => by cases h; cases r; exact ⟨_, ReadsAll.nil, by simp⟩
  | n, d :: ds, _, _, h, k, r => by
    cases h with
    | cons h1 h2 =>
      cases r with
      | cons r1 r2 =>
        have k' : D.pt n d = true ∧ Dpts n ds = true := by simpa [Dpts] using k
        obtain ⟨as, q1, n1⟩ := px_reads hS I d _ _ h1 k'.1 r1
        obtain ⟨bs, q2, n2⟩ := pxs_reads hS I ds _ _ h2 k'.2 r2
        exact ⟨_, ReadsAll.cons q1 q2, by simp [n1, n2]⟩
end
end
def sD0 : SemE := fun env Q _ => Q (.ow (.dK []) []) env
theorem q_dict0 {X : Cx} {W : WX} {pos : Pos} : QE X W [] (.Dict [] [] pos) sD0 :=
  ⟨PE_imp pe_dnewK fun σ H Qv ⟨n, ow, env, Q, E, s, hq, k, x⟩ p hp => k _ _ _ (Ow.put ow p (.tm n)) env (Stp.new hp) (s.stp0 (n := 0) (Stp.new hp)) Out.refl
    ⟨_, .ow (k := .dK []) (dx := p) (vs := []) ⟨upd_same, by decide, show ([] : List Key).length = ([] : List V).length from rfl⟩ (fun b fb => by have e : b = p := fb; rw [e]; exact put_same) .nil⟩ hq⟩
section
variable {P : Program} {w : World} {K : PySem.W.Frag} {mg mb : Str → Option Value} {k : Nat} {fa a : Addr} {p1 : Str} {sp : Sp} {st : Shared}
end
end QV

set_option Elab.async false
set_option linter.all false
set_option maxRecDepth 100000
set_option maxHeartbeats 2000000
namespace QV
open PySem PySem.Spec PyProof.Rows L2
section
variable {X : Cx} {W : WX} {M : List Nat} {a : Expr} {pa : SemP} {ra : Option Nat} {x : Str} {p pos : Pos}
end
end QV

set_option Elab.async false
set_option linter.all false
set_option maxRecDepth 100000
set_option maxHeartbeats 2000000
namespace QV
open PySem PySem.Spec PyProof.Rows L2
section
variable {K : PySem.W.Frag} {H : Hp} {ow : Ow}
end
section
variable {X : Cx} {W : WX} {Ma Mb Mc : List Nat} {a b c tg : Expr} {qa qb qc : SemE} {p pos : Pos}
end
end QV

set_option Elab.async false
set_option linter.all false
set_option maxRecDepth 100000
set_option maxHeartbeats 2000000
namespace QV
open PySem PySem.Spec PyProof.Rows L2
section
variable {X : Cx} {W : WX} {M Ma Mb IO : List Nat} {e o ix : Expr} {q qi : SemE} {pa : SemP} {ra : Option Nat} {C : Addr} {x : Str} {pos tpos : Pos}
end
section
variable {κ : Type} [DecidableEq κ] {α : Type}
variable {K : PySem.W.Frag} {B : Hp}
end
section
variable {X : Cx} {W : WX} {M Ma Mb IO : List Nat} {e o ix : Expr} {q qi : SemE} {pa : SemP} {pos tpos : Pos}
end
end QV

set_option Elab.async false
set_option linter.all false
set_option maxRecDepth 100000
set_option maxHeartbeats 4000000
namespace QV
open PySem PySem.Spec PyProof.Rows L2
section
variable {X : Cx} {W : WX} {M : List Nat} {e : Expr} {pa : SemP} {root : Option Nat} {p p2 pos pos2 : Pos}
end
end QV

set_option Elab.async false
set_option linter.all false
set_option maxRecDepth 100000
set_option maxHeartbeats 2000000
namespace QV
open PySem PySem.Spec PyProof.Rows L2
section
variable {X : Cx} {W : WX} {M Ma Mb IO : List Nat} {k : Nat} {f C : Addr} {fd : FuncData} {ps : List Str} {io : List Nat} {sp : Sp} {spec : SemF} {ks : List (Option Nat)} {e : Expr} {es : List Expr} {q : SemE} {qs : SemD} {m x : Str} {px p pos apos : Pos}
end
section
variable {X : Cx} {W : WX} {M IO : List Nat} {C : Addr} {e : Expr} {q : SemE} {x m : Str} {px tpos pos : Pos}
end
end QV

set_option Elab.async false
set_option linter.all false
set_option maxRecDepth 100000
set_option maxHeartbeats 2000000
namespace L2
open PySem PySem.Spec PyProof.Rows
section
variable {X : Cx}
end
end L2
namespace QV
open PySem PySem.Spec PyProof.Rows L2
section
variable {κ : Type} [DecidableEq κ] {α : Type}
variable {K : PySem.W.Frag} {B : Hp}
end
section
variable {X : Cx} {W : WX} {Ma Mb : List Nat} {e o : Expr} {pa : SemP} {q : SemE}
end
end QV

set_option Elab.async false
set_option linter.all false
set_option maxRecDepth 100000
set_option maxHeartbeats 2000000
namespace QV
open PySem PySem.Spec PyProof.Rows L2
mutual
def T.sub : T → List Nat → Option T
  | t, [] => some t
  | .nd _ ts, j :: p => Tsub ts j p
  | _, _ :: _ => none
def Tsub : List T → Nat → List Nat → Option T
  | [], _, _ => none
  | t :: _, 0, p => T.sub t p
  | _ :: ts, j + 1, p => Tsub ts j p
end
section
variable {X : Cx} {W : WX} {M : List Nat} {e : Expr} {q : SemE}
end
def keyT (k : List Key) : D := .nd .tup (k.map keyOf)
section
variable {X : Cx} {W : WX} {M : List Nat} {e : Expr} {pa : SemP} {root : Option Nat} {p pos : Pos}
end
end QV

set_option Elab.async false
set_option linter.all false
set_option maxRecDepth 100000
set_option maxHeartbeats 2000000
namespace QV
open PySem PySem.Spec PyProof.Rows L2
section
variable {K : PySem.W.Frag} {H : Hp} {ow : Ow} {σ : L2.St} {env : Env} {i : Nat} {v0 v : V} {t0 : T} {p : List Nat} {ds : List D} {l : Lab}
theorem Sub.swap {t : T} (s : Sub K H ow l v0 t0 p v t) (t' : T) : Sub K H ow l v0 (t0.put p t') p v t' := by
  induction s with
  | nil => rw [put_nil]; exact .nil
  | @cons a dx k vs ts j p v1 v t1 t c f e1 e2 _ ih =>
    rw [put_cons, Tput_set e2]
    exact .cons c f e1 (by rw [List.getElem?_set_self (List.getElem?_eq_some_iff.mp e2).1]) ih
end
section
variable {X : Cx} {W : WX} {M : List Nat} {e : Expr} {pa : SemP} {x : Str} {pos : Pos}
end
mutual
def okE : D → Bool
  | .nd .tup ds => okEs ds
  | .nd .lst [] => true
  | .nd .lst (d :: ds) => flD0 d && okEs (d :: ds)
  | d => flD0 d
def okEs : List D → Bool
  | [] => true
  | d :: ds => okE d && okEs ds
end
mutual
def okET : T → Bool
  | .fz d => okE d
  | .ow _ ds => okEs ds
  | .nd _ ts => okETs ts
def okETs : List T → Bool
  | [] => true
  | t :: ts => okET t && okETs ts
end
def badE (o : HO) : Prop := ∃ (a : Addr) (vs : List V), o = .lst (.ref a :: vs)
section
variable {K : PySem.W.Frag} {B B' : Hp}
mutual
theorem rp_keepE (e : ∀ a o, B a = some o → ¬ badE o → B' a = some o) : ∀ {v : V} {d : D}, Rp K B v d → okE d = true → Rp K B' v d
  | _, _, .non, _ => .non
  | _, _, .bl b, _ => .bl b
  | _, _, .int i, _ => .int i
  | _, _, .str x, _ => .str x
  | _, _, .scr _, h => by simp [okE, flD0] at h
  | _, _, .exc0 _ _, h => by simp [okE, flD0] at h
  | _, _, .exc1 _ _ _, h => by simp [okE, flD0] at h
  | _, _, .tup c z r, h => .tup (e _ _ c fun ⟨_, _, q⟩ => nomatch q) z (rps_keepE e r (by simpa [okE] using h))
  | _, _, .cell (k := k) (vs := vs) (ds := ds) hk c r, h => by
    cases k with
    | lst =>
      have hb : ¬ badE (.lst vs) := fun ⟨a0, vs0, q⟩ => by
        have q : vs = .ref a0 :: vs0 := by cases q; rfl
        subst q
        cases r with
        | cons r0 rs =>
          simp only [okE, Bool.and_eq_true] at h
          exact rp_nref r0 h.1 a0 rfl
      refine .cell hk ⟨e _ _ c.at_ hb, c.sz, trivial⟩ (rps_keepE e r ?_)
      cases ds with
      | nil => rfl
      | cons d ds => simp only [okE, Bool.and_eq_true] at h; exact h.2
    | tup => exact absurd rfl hk
    | dK ks => simp [okE, flD0] at h
    | dT ks => simp [okE, flD0] at h
    | lkT o ks => simp [okE, flD0] at h
    | lsA b => simp [okE, flD0] at h
    | ins C ks => simp [okE, flD0] at h
theorem rps_keepE (e : ∀ a o, B a = some o → ¬ badE o → B' a = some o) : ∀ {vs : List V} {ds : List D}, Rps K B vs ds → okEs ds = true → Rps K B' vs ds
  | _, _, .nil, _ => .nil
  | _, _, .cons r s, h => by
    simp only [okEs, Bool.and_eq_true] at h
    exact .cons (rp_keepE e r h.1) (rps_keepE e s h.2)
end
mutual
theorem Tp.carE {H H' : Hp} {ow ow' : Ow} {l l' : Lab} (e : ∀ a o, Bs H ow a = some o → ¬ badE o → Bs H' ow' a = some o) : ∀ {v : V} {t : T} {S : Addr → Prop}, okET t = true → (∀ a o, S a → H a = some o → ow a = l → H' a = some o ∧ ow' a = l') → Tp K H ow l v t S → Tp K H' ow' l' v t S
  | _, _, _, h, _, .fz r => .fz (rp_keepE e r (by simpa [okET] using h))
  | _, _, _, h, k, .ow c f r => .ow (c.at_same fun b o fb q => (k b o fb q (f b fb)).1) (fun b fb => let ⟨o, q⟩ := c.there fb; (k b o fb q (f b fb)).2) (rps_keepE e r (by simpa [okET] using h))
  | _, _, _, h, k, .nd c f r => .nd (c.at_same fun b o fb q => (k b o (.inl fb) q (f b fb).1).1)
      (fun b fb => let ⟨o, q⟩ := c.there fb; ⟨(k b o (.inl fb) q (f b fb).1).2, (f b fb).2⟩) (Tps.carE e (by simpa [okET] using h) (fun b o s => k b o (.inr s)) r)
theorem Tps.carE {H H' : Hp} {ow ow' : Ow} {l l' : Lab} (e : ∀ a o, Bs H ow a = some o → ¬ badE o → Bs H' ow' a = some o) : ∀ {v : List V} {t : List T} {S : Addr → Prop}, okETs t = true → (∀ a o, S a → H a = some o → ow a = l → H' a = some o ∧ ow' a = l') → Tps K H ow l v t S → Tps K H' ow' l' v t S
  | _, _, _, _, _, .nil => .nil
  | _, t :: ts, _, h, k, .cons r s d => by
    have h' : okET t = true ∧ okETs ts = true := by simpa [okETs] using h
    exact .cons (Tp.carE e h'.1 (fun b o q => k b o (.inl q)) r) (Tps.carE e h'.2 (fun b o q => k b o (.inr q)) s) d
end
end
open Classical in
noncomputable def labX (io cs : List Nat) (C : Addr → Prop) (ow : Ow) : Ow := fun a => if C a then .base else labIn io cs (ow a)
open Classical in
noncomputable def labBX (io cs : List Nat) (m : Nat) (C : Addr → Prop) (ow owc : Ow) : Ow := fun a => if C a ∧ owc a = .base then ow a else labBack io cs m (ow a) (owc a)
section
variable {X : Cx} {W : WX} {M : List Nat} {k : Nat} {f : Addr} {fd : FuncData} {ps : List Str} {io cs : List Nat} {spec : SemF} {ks : List (Option Nat)} {e : Expr} {es : List Expr} {qs : SemD} {x : Str} {p pos : Pos}
end
section
variable {X : Cx} {W : WX} {M Mb : List Nat} {k : Nat} {es : List Expr} {qs : SemAT} {x : Str} {pos : Pos}
end
end QV

set_option Elab.async false
set_option linter.all false
set_option maxRecDepth 100000
set_option maxHeartbeats 2000000
namespace QV.SM
open PySem PyProof.Rows QV
section
variable {prog : Program} {w : World} {A : Around} {E : Value → Shared → Prop} {s : Shared}
end
end QV.SM
namespace QV
open PySem PySem.Spec PyProof.Rows L2
open Classical in
section
variable {X : Cx} {W : WX} {M : List Nat} {e : Expr} {root : Option Nat} {pa : SemP} {pos p : Pos}
end
end QV

set_option Elab.async false
set_option linter.all false
set_option maxRecDepth 100000
set_option maxHeartbeats 2000000
namespace QV
open PySem PySem.Spec PyProof.Rows L2
section
variable {X : Cx} {W : WX} {M : List Nat} {e : Expr} {pa : SemP} {root : Option Nat} {p pos cp : Pos} {y : Str} {C : Addr}
end
end QV

set_option Elab.async false
set_option linter.all false
set_option maxRecDepth 100000
set_option maxHeartbeats 2000000
namespace QV
open PySem PySem.Spec PyProof.Rows L2
section
variable {P : Program} {w : World} {K : PySem.W.Frag} {mg : Str → Option Value} {base : Heap}
end
end QV

set_option Elab.async false
set_option linter.all false
set_option maxRecDepth 100000
set_option maxHeartbeats 2000000
namespace QV
open PySem PySem.Spec PyProof.Rows L2
inductive HdsMix (X : Cx) : List ExceptHandler → List (Value × Option Nat × (Addr → Value → Option Addr → TS)) → Prop
  | nil : HdsMix X [] []
  | only {x : Str} {c : Value} {ts : Addr → Value → Option Addr → TS} {b₀ : Stmt} {suite : List Stmt} {np pos' : Pos} {hds : List ExceptHandler} {l : List (Value × Option Nat × (Addr → Value → Option Addr → TS))} (hc : Names X x c)
      (hsu : ∀ (a : Addr) (oe : Obj) (cls : Value) (d : Option Addr) (pn : List (Addr × Obj)), Zc cls d oe → (∃ vs, oe.data = .fields vs) → PSs (X.suite a ((a, oe) :: pn)) (b₀ :: suite) (ts a cls d)) (r : HdsMix X hds l) :
      HdsMix X (.ExceptHandler (some (.Name x np)) none (b₀ :: suite) pos' :: hds) ((c, none, ts) :: l)
  | as_ {x n : Str} {i : Nat} {c : Value} {ts : Addr → Value → Option Addr → TS} {b₀ : Stmt} {suite : List Stmt} {np pos' : Pos} {hds : List ExceptHandler} {l : List (Value × Option Nat × (Addr → Value → Option Addr → TS))} (hi : X.N[i]? = some n) (hln : X.env.kindOf n = some .local) (hc : Names X x c)
      (hsu : ∀ (a : Addr) (oe : Obj) (cls : Value) (d : Option Addr) (pn : List (Addr × Obj)), Zc cls d oe → (∃ vs, oe.data = .fields vs) → PSs (X.suite a ((a, oe) :: pn)) (b₀ :: suite) (ts a cls d)) (r : HdsMix X hds l) :
      HdsMix X (.ExceptHandler (some (.Name x np)) (some n) (b₀ :: suite) pos' :: hds) ((c, some i, ts) :: l)
section
variable {X : Cx} {body : List Stmt} {h₀ : ExceptHandler} {hds : List ExceptHandler} {l : List (Value × Option Nat × (Addr → Value → Option Addr → TS))} {pos : Pos} {tb : WX → TS} {Wout : WX}
end
abbrev HdS := Option Nat × Str × (Addr → Addr → Option Addr → SemS)
def convH (K : PySem.W.Frag) (W : WX) (IO : List Nat) (ca : Str → Addr) (l : List HdS) : List (Value × Option Nat × (Addr → Value → Option Addr → TS)) :=
  l.map fun p => (.ref (ca p.2.1), p.1, fun a cls d D σ H => ∃ C : Addr, cls = .ref C ∧ tS K W IO (p.2.2 a C d) D σ H)
inductive QHs (X : Cx) (W : WX) (IO : List Nat) (cs : List Str) : List ExceptHandler → List HdS → Prop
  | nil : QHs X W IO cs [] []
  | only {y : Str} {ss : Addr → Addr → Option Addr → SemS} {b0 : Stmt} {suite : List Stmt} {np pos' : Pos} {hds : List ExceptHandler} {l : List HdS} (hy : y ∈ cs) (hgy : Gl X y)
      (hsu : ∀ (a C : Addr) (d : Option Addr) (pn : List (Addr × Obj)), Pn (X.suite a pn) a C d → QSs (X.suite a pn) W IO (b0 :: suite) (ss a C d)) (r : QHs X W IO cs hds l) (hdy : (y == ("__debug__" : Str)) = false := by decide) :
      QHs X W IO cs (.ExceptHandler (some (.Name y np)) none (b0 :: suite) pos' :: hds) ((none, y, ss) :: l)
  | as_ (i : Nat) {y n : Str} {ss : Addr → Addr → Option Addr → SemS} {b0 : Stmt} {suite : List Stmt} {np pos' : Pos} {hds : List ExceptHandler} {l : List HdS} (hy : y ∈ cs) (hgy : Gl X y)
      (hsu : ∀ (a C : Addr) (d : Option Addr) (pn : List (Addr × Obj)), Pn (X.suite a pn) a C d → QSs (X.suite a pn) W IO (b0 :: suite) (ss a C d)) (r : QHs X W IO cs hds l) (hi : X.N[i]? = some n := by rfl) (hln : X.env.kindOf n = some .local := by rfl) (hdy : (y == ("__debug__" : Str)) = false := by decide) (hio : i ∉ IO := by decide) :
      QHs X W IO cs (.ExceptHandler (some (.Name y np)) (some n) (b0 :: suite) pos' :: hds) ((some i, y, ss) :: l)
section
variable {X : Cx} {W : WX} {IO : List Nat} {ca : Str → Addr} {ns ts cs fs : List Str} {isa : Str → Str → Bool}
theorem QHs.mix (T : Xt X.K X.mg ca ns ts cs fs isa) {hds : List ExceptHandler} {l : List HdS} (h : QHs X W IO cs hds l) : HdsMix X hds (convH X.K W IO ca l) := by
  induction h with
  | nil => exact .nil
  | only hy hgy hsu r hdy ih => exact .only ⟨hgy, hdy, .inl (T.mg _ (.inr hy))⟩ (fun a oe cls d pn hz hv => ⟨fun pins s σ H D I ⟨C, ec, q⟩ => by subst ec; exact (hsu a C d ((a, oe) :: pn) ⟨oe, List.mem_cons_self, hz, hv⟩).run.run pins s σ H D I q⟩) ih
  | as_ i hy hgy hsu r hi hln hdy hio ih => exact .as_ hi hln ⟨hgy, hdy, .inl (T.mg _ (.inr hy))⟩ (fun a oe cls d pn hz hv => ⟨fun pins s σ H D I ⟨C, ec, q⟩ => by subst ec; exact (hsu a C d ((a, oe) :: pn) ⟨oe, List.mem_cons_self, hz, hv⟩).run.run pins s σ H D I q⟩) ih
end
end QV

set_option Elab.async false
set_option linter.all false
set_option maxRecDepth 100000
set_option maxHeartbeats 2000000
namespace QV
open PySem PySem.Spec PyProof.Rows L2
open Classical in
noncomputable def lendIn (St : Addr → Prop) (ow : Ow) : Ow := fun a => if St a then .sl 0 else if ow a = .base then .base else .fr
open Classical in
noncomputable def lendBack (St : Addr → Prop) (H : Hp) (ow : Ow) (i m : Nat) (owc : Ow) : Ow := fun a => if (H a).isSome = true ∧ ¬ St a then ow a else match owc a with
  | .sl 0 => .sl i
  | .base => .base
  | .fr => .fr
  | _ => .tm m
section
variable {X : Cx} {W : WX} {Ma Mb : List Nat} {k : Nat} {ps : List Str} {spec : SemF} {ks : List (Option Nat)} {e : Expr} {es : List Expr} {pa : SemP} {qs : SemD} {x : Str} {p pos : Pos}
end
end QV

set_option Elab.async false
set_option linter.all false
set_option maxRecDepth 100000
set_option maxHeartbeats 2000000
namespace QV
open PySem PySem.Spec PyProof.Rows L2
open Classical in
noncomputable def lendIn2 (St : Addr → Prop) (c : Nat) (ow : Ow) : Ow := fun a => if St a then .sl 1 else if ow a = .sl c then .sl 0 else if ow a = .base then .base else .fr
open Classical in
noncomputable def lendBack2 (St : Addr → Prop) (H : Hp) (ow : Ow) (c i m : Nat) (owc : Ow) : Ow := fun a => if (H a).isSome = true ∧ ¬ (St a ∨ ow a = .sl c) then ow a else match owc a with
  | .sl 0 => .sl c
  | .sl 1 => .sl i
  | .base => .base
  | .fr => .fr
  | _ => .tm m
section
variable {X : Cx} {W : WX} {Ma Mb : List Nat} {k : Nat} {ps : List Str} {spec : SemF} {ks : List (Option Nat)} {e : Expr} {es : List Expr} {pa : SemP} {qs : SemD} {x y : Str} {p pos py : Pos}
end
end QV

set_option Elab.async false
set_option linter.all false
set_option maxRecDepth 100000
set_option maxHeartbeats 2000000
namespace QV
open PySem PySem.Spec PyProof.Rows L2
def spIni2 (K : PySem.W.Frag) (f g : Str) : Sp := fun vs H Q _ => ∃ a C y z, vs = [.ref a, y, z] ∧ OexC K C ∧ H a = some (exo a C none) ∧ PySem.W.findIn K (.ref C) f = some none ∧ PySem.W.findIn K (.ref C) g = some none ∧
  ∀ dx, H dx = none → dx ≠ a → Q .non (upd (upd (upd H dx (exd dx [(f, y)])) a (exo a C (some dx))) dx (exd dx [(g, z), (f, y)]))
structure BareG2 (P : Program) (w : World) (K : PySem.W.Frag) (mg : Str → Option Value) (base : Heap) (k : Nat) (x : Str) (C : Addr) (f g : Str) (ps : List Str) : Prop where
  at_ : mg x = some (.ref C)
  no1 : PySem.W.findIn K (.ref C) f = some none
  no2 : PySem.W.findIn K (.ref C) g = some none
  ex : ∃ fI fd, OexC K C ∧ PySem.W.findIn K (.ref C) "__init__" = some (some (.ref fI)) ∧ PySem.W.typeIn K (.ref fI) = some (.type "function") ∧ FnOk P w K mg base (L2.CX P w) k fI fd ps (spIni2 K f g) ∧ Binds K fd ps []
structure Bare2 (X : Cx) (k : Nat) (x : Str) (C : Addr) (f g : Str) (ps : List Str) : Prop where
  mg : X.mg x = some (.ref C)
  no1 : PySem.W.findIn X.K (.ref C) f = some none
  no2 : PySem.W.findIn X.K (.ref C) g = some none
  ex : ∃ fI fd, OexC X.K C ∧ PySem.W.findIn X.K (.ref C) "__init__" = some (some (.ref fI)) ∧ PySem.W.typeIn X.K (.ref fI) = some (.type "function") ∧ FnOk X.prog X.w X.K X.mg X.base (L2.CX X.prog X.w) k fI fd ps (spIni2 X.K f g) ∧ Binds X.K fd ps []
end QV

set_option Elab.async false
set_option linter.all false
set_option maxRecDepth 100000
set_option maxHeartbeats 2000000
namespace QV
open PySem PySem.Spec PyProof.Rows L2
section
variable {X : Cx} {W : WX} {Ma Mb : List Nat} {a b : Expr} {pa pb : SemP} {ra rb : Option Nat} {pos : Pos}
end
end QV

set_option Elab.async false
set_option linter.all false
set_option maxRecDepth 100000
set_option maxHeartbeats 2000000
namespace QV
open PySem PySem.Spec PyProof.Rows L2
section
variable {X : Cx} {W : WX} {M Ma Mb IO : List Nat} {a b e o ix : Expr} {pa : SemP} {qb q qi : SemE} {ra root : Option Nat} {pos tpos : Pos}
end
section
variable {X : Cx} {W : WX} {Ma Mb : List Nat} {a b : Expr} {pa pb : SemP} {ra rb : Option Nat} {pos : Pos}
end
abbrev SemPT := Env → (List Key → List T → Env → Prop) → XQ → Prop
def tPT (K : PySem.W.Frag) (W : WX) (M : List Nat) (q : SemPT) (σ : L2.St) (H : Hp) (Qv : List (V × V) → Hp → Prop) : Prop := ∃ (n : Nat) (ow : Ow) (env : Env) (Q : List Key → List T → Env → Prop) (E : XQ), StOk K H ow σ env ∧ q env Q E ∧
  (∀ (vs : List V) (ks : List Key) (ts : List T) (H' : Hp) (ow' : Ow) (env' : Env), Stp M n H ow H' ow' → StOk K H' ow' σ env' → Out M env env' → ks.length = vs.length → vs.length = ts.length → (∀ (j : Nat) (v : V) (t : T), vs[j]? = some v → ts[j]? = some t → Tq K H' ow' (.tm (n + j)) v t) → Q ks ts env' → Qv ((ks.map kV).zip vs) H') ∧ Xk K W M σ H n ow env E
structure QPT (X : Cx) (W : WX) (M : List Nat) (pos : Pos) (ks : List (Option Expr)) (vs : List Expr) (q : SemPT) : Prop where
  run : ∃ trs, PPs X pos ks vs trs ∧ ∀ σ H Qv, tPT X.K W M q σ H Qv → tPairs trs σ H Qv
section
variable {X : Cx} {W : WX} {M Ma Mb Mc : List Nat} {o e f : Expr} {ks : List (Option Expr)} {vs : List Expr} {qk qv : SemE} {qr : SemPT} {pos : Pos}
end
section
variable {X : Cx} {W : WX} {M Ma Mb IO : List Nat} {e o ix : Expr} {q qi : SemE} {pa : SemP} {pos tpos : Pos}
end
end QV

set_option Elab.async false
set_option linter.all false
set_option maxRecDepth 100000
set_option maxHeartbeats 2000000
namespace L2
open PySem PySem.Spec PyProof.Rows
section
variable {κ : Type} [DecidableEq κ]
def mergeG (kvs more : List (κ × V)) : List (κ × V) := more.foldl (fun acc kv => putK acc kv.1 kv.2) kvs
end
theorem KT.merge {H : Hp} : ∀ {more : List (List Key × V)} {ps : List (List Key × Addr × Value)} {kvs : List (List Key × V)} {xs : List (List Key × Addr × Value)}, KT H more ps → KT H kvs xs → KT H (mergeG kvs more) (storedAllH xs ps) := by
  intro more ps kvs xs r
  induction r generalizing kvs xs with
  | nil => intro q; exact q
  | @cons p q ps qs h t ih =>
    intro r0
    have e : KT H (putK kvs p.1 p.2) (storedH xs q.1 q.2.1 q.2.2) := by
      have := r0.put p.1 (b := q.2.1) h.2.1 h.2.2
      rw [← h.1]; exact this
    exact ih e
section
variable {X : Cx}
end
end L2

set_option Elab.async false
set_option linter.all false
set_option maxRecDepth 100000
set_option maxHeartbeats 2000000
namespace QV
open PySem PySem.Spec PyProof.Rows L2
open Classical in
section
variable {X : Cx} {W : WX} {M : List Nat} {e : Expr} {root : Option Nat} {pa : SemP} {pos p : Pos}
end
end QV

set_option Elab.async false
set_option linter.all false
set_option maxRecDepth 100000
set_option maxHeartbeats 2000000
namespace QV
open PySem PySem.Spec PyProof.Rows L2
section
variable {K : PySem.W.Frag} {H : Hp} {ow : Ow}
end
section
variable {X : Cx} {W : WX} {M : List Nat} {e : Expr} {pa : SemP} {root : Option Nat} {p pos : Pos}
end
section
variable {X : Cx} {W : WX} {Ma Mb : List Nat} {o e : Expr} {pa : SemP} {q : SemE} {apos cpos : Pos}
end
end QV

set_option Elab.async false
set_option linter.all false
set_option maxRecDepth 100000
set_option maxHeartbeats 2000000
namespace QV
open PySem PySem.Spec PyProof.Rows L2
theorem Sub.one {K : PySem.W.Frag} {H : Hp} {ow : Ow} {l : Lab} {v0 v : V} {k : Kd} {ts : List T} {t : T} {j : Nat} (s : Sub K H ow l v0 (.nd k ts) [j] v t) : ∃ a dx vs, v0 = .ref a ∧ Cell H a dx k vs ∧ vs[j]? = some v ∧ ts[j]? = some t := by
  cases s with
  | cons c f e1 e2 s =>
    cases s
    exact ⟨_, _, _, rfl, c, e1, e2⟩
section
variable {X : Cx} {W : WX} {Ma Mb Mc : List Nat} {e o o2 : Expr} {pa pb : SemP} {q : SemE}
end
end QV

set_option Elab.async false
set_option linter.all false
set_option maxRecDepth 100000
set_option maxHeartbeats 2000000
namespace QV
open PySem PySem.Spec PyProof.Rows L2
section
variable {X : Cx} {W : WX} {M : List Nat} {e : Expr} {pa : SemP} {root : Option Nat} {p pos : Pos}
end
end QV

set_option Elab.async false
set_option linter.all false
set_option maxRecDepth 1000000
set_option maxHeartbeats 2000000
namespace QV
open PySem
end QV

set_option Elab.async false
set_option linter.all false
set_option maxRecDepth 100000
set_option maxHeartbeats 2000000
namespace QV
open PySem PySem.Spec PyProof.Rows L2
abbrev Fx := PySem.W.Frag → Bool
def obsX (fa : List Fx) (fn : List He.FnD) (K : PySem.W.Frag) : He.Al := ((fa.all fun f => f K) && fn.all fun d => (He.Fa.code d.at_ d.qual).ok K, fn.map fun d => He.fnObs K d.at_)
def SaysX (fa : List Fx) (fn : List He.FnD) (K : PySem.W.Frag) : Prop := obsX fa fn K = He.valE fn
section
variable {fa : List Fx} {fn : List He.FnD} {K : PySem.W.Frag}
theorem SaysX.all (c : SaysX fa fn K) : (fa.all fun f => f K) = true := (He.ba (show ((fa.all fun f => f K) && fn.all fun d => (He.Fa.code d.at_ d.qual).ok K) = true from congrArg (fun z : He.Al => z.1) c)).1
end
end QV

set_option Elab.async false
set_option linter.all false
set_option maxRecDepth 100000
set_option maxHeartbeats 2000000
namespace QV
open PySem PySem.Spec PyProof.Rows L2
end QV

set_option Elab.async false
set_option linter.all false
set_option maxRecDepth 100000
set_option maxHeartbeats 2000000
namespace L2
open PySem PySem.Spec PyProof.Rows
section
variable {prog : Program} {w : World} {A : Around} {E : Value → Shared → Prop} {s : Shared}
end
section
variable {X : Cx} {pins : List (Addr × Obj)} {σ : St} {H : Hp} {s : Shared} {a : Addr} {kvs : List (List Key × V)} {A : Around} {E : Value → Shared → Prop}
end
end L2
namespace QV
open PySem PySem.Spec PyProof.Rows L2
section
variable {X : Cx} {W : WX} {M Ma Mb : List Nat} {a b : Expr} {pa pb : SemP} {ra rb : Option Nat} {pos : Pos}
end
end QV

set_option Elab.async false
set_option linter.all false
set_option maxRecDepth 100000
set_option maxHeartbeats 2000000
namespace QV
open PySem PySem.Spec PyProof.Rows L2
mutual
def tpD : D → Bool
  | .nd .tup ds => tpDs ds
  | d => flD0 d
def tpDs : List D → Bool
  | [] => true
  | d :: ds => tpD d && tpDs ds
end
section
variable {K : PySem.W.Frag} {B B' : Hp}
mutual
theorem rp_tp (e : ∀ a vs, B a = some (.tup vs) → B' a = some (.tup vs)) : ∀ {v : V} {d : D}, Rp K B v d → tpD d = true → Rp K B' v d
  | _, _, .non, _ => .non
  | _, _, .bl b, _ => .bl b
  | _, _, .int i, _ => .int i
  | _, _, .str x, _ => .str x
  | _, _, .scr _, h => by simp [tpD, flD0] at h
  | _, _, .exc0 _ _, h => by simp [tpD, flD0] at h
  | _, _, .exc1 _ _ _, h => by simp [tpD, flD0] at h
  | _, _, .tup c z r, h => .tup (e _ _ c) z (rps_tp e r (by simpa [tpD] using h))
  | _, _, .cell (k := k) hk c r, h => by
    cases k with
    | tup => exact absurd rfl hk
    | lst => simp [tpD, flD0] at h
    | dK ks => simp [tpD, flD0] at h
    | dT ks => simp [tpD, flD0] at h
    | lkT o ks => simp [tpD, flD0] at h
    | lsA b => simp [tpD, flD0] at h
    | ins C ks => simp [tpD, flD0] at h
theorem rps_tp (e : ∀ a vs, B a = some (.tup vs) → B' a = some (.tup vs)) : ∀ {vs : List V} {ds : List D}, Rps K B vs ds → tpDs ds = true → Rps K B' vs ds
  | _, _, .nil, _ => .nil
  | _, _, .cons r s, h => by
    simp only [tpDs, Bool.and_eq_true] at h
    exact .cons (rp_tp e r h.1) (rps_tp e s h.2)
end
end
section
variable {X : Cx} {W : WX} {M Ma Mb : List Nat} {k : Nat} {f : Addr} {fd : FuncData} {ps : List Str} {io cs : List Nat} {spec : SemF} {ks : List (Option Nat)} {e : Expr} {es : List Expr} {qs : SemD} {x : Str} {p pos : Pos}
end
end QV

set_option Elab.async false
set_option linter.all false
set_option maxRecDepth 100000
set_option maxHeartbeats 2000000
namespace QV
open PySem PySem.Spec PyProof.Rows L2
section
variable {K : PySem.W.Frag} {H : Hp} {ow : Ow} {σ : L2.St} {env : Env} {i : Nat} {t0 : T} {p : List Nat} {ds : List D}
end
section
variable {X : Cx} {W : WX} {M Ma : List Nat} {k : Nat} {ps : List Str} {spec : SemF} {e : Expr} {e1 : Expr} {q1 : SemE} {pa : SemP} {x : Str} {px pos : Pos}
end
end QV

set_option Elab.async false
set_option linter.all false
set_option maxRecDepth 100000
set_option maxHeartbeats 2000000
namespace QV
open PySem PySem.Spec PyProof.Rows L2
end QV

set_option Elab.async false
set_option linter.all false
set_option maxRecDepth 100000
set_option maxHeartbeats 2000000
namespace QV
open PySem PySem.Spec PyProof.Rows L2
section
variable {X : Cx} {W : WX} {M Ma Mb : List Nat} {k : Nat} {f : Addr} {fd : FuncData} {ps : List Str} {spec : SemF} {e : Expr} {x : Str} {p pos : Pos}
end
end QV

set_option Elab.async false
set_option linter.all false
set_option maxRecDepth 100000
set_option maxHeartbeats 2000000
namespace HI
noncomputable section
def st (acc h : Nat) : Nat :=
  (fun a => Nat.mod (Nat.mul (Nat.add (Nat.mod (Nat.mul a 2147483648) 18446744073709551616) (Nat.div a 8589934592)) 11400714785074694791) 18446744073709551616)
  (Nat.mod (Nat.add acc (Nat.mul h 14029467366897019727)) 18446744073709551616)
def fin (n acc : Nat) : Nat := Nat.mod (Nat.add acc (Nat.xor n (Nat.xor 2870177450012600261 3527539))) 18446744073709551616
section
variable (f g : Nat → Nat → Nat) (c : Nat)
def ext (as : List Nat) : List Nat := as.flatMap fun a => [f a 1, f a 2, f a 3, f a 4]
def l1 : List Nat := (List.range 24).map fun i => f c (Nat.add i 1)
def lK : Nat → List Nat
  | 0 => l1 f c
  | k+1 => ext f (lK k)
def GF := (lK f c 0).map (g 1) ++ ((lK f c 1).map (g 2) ++ ((lK f c 2).map (g 3) ++ ((lK f c 3).map (g 4) ++ ((lK f c 4).map (g 5) ++ (lK f c 5).map (g 6)))))
end
def G := GF st fin 2870177450012600261
def flt (p : Nat → Bool) (l : List Nat) : List Nat := List.rec (motive := fun _ => List Nat) [] (fun x _ ih => Bool.rec ih (x :: ih) (p x)) l
def ne (x : Nat) (l : List Nat) : Bool := List.rec (motive := fun _ => Bool) true (fun y _ ih => Bool.rec ih false (Nat.beq x y)) l
def nodB (l : List Nat) : Bool := List.rec (motive := fun _ => Bool) true (fun x l ih => Bool.rec false ih (ne x l)) l
def nodR (d : Nat) : List Nat → Bool := Nat.rec (motive := fun _ => List Nat → Bool) nodB (fun d ih l => Bool.rec false (ih (flt (fun x => Nat.beq (Nat.mod (Nat.shiftRight x d) 2) 1) l)) (ih (flt (fun x => Nat.beq (Nat.mod (Nat.shiftRight x d) 2) 0) l))) d
def allNe (l : List Nat) : Bool := List.rec (motive := fun _ => Bool) true (fun x _ ih => Bool.rec ih false (Nat.beq x 18446744073709551615)) l
theorem g_ne : allNe G = true := by decide +kernel
theorem g0 : nodR 12 (flt (fun x => Nat.beq (Nat.mod x 4) 0) G) = true := by decide +kernel
theorem g1 : nodR 12 (flt (fun x => Nat.beq (Nat.mod x 4) 1) G) = true := by decide +kernel
theorem g2 : nodR 12 (flt (fun x => Nat.beq (Nat.mod x 4) 2) G) = true := by decide +kernel
section
variable (f g : Nat → Nat → Nat) (c : Nat)
def accF (n : List Nat) : Nat := n.foldl f c
def hF (n : List Nat) : Nat := g n.length (accF f c n)
end
end
end HI

namespace QV
open PySem PySem.Spec PyProof.Rows L2 HI
end QV

set_option Elab.async false
set_option linter.all false
set_option maxRecDepth 100000
set_option maxHeartbeats 4000000
namespace L2
open PySem PySem.Spec PyProof.Rows
end L2
namespace QV
open PySem PySem.Spec PyProof.Rows L2
section
variable {X : Cx} {W : WX} {M Ma Ms : List Nat} {e es : Expr} {pa : SemP} {qs : SemO} {ra : Option Nat} {pos p3 : Pos}
end
end QV

set_option Elab.async false
set_option linter.all false
set_option maxRecDepth 100000
set_option maxHeartbeats 2000000
namespace QV
open PySem PySem.Spec PyProof.Rows L2
section
variable {X : Cx} {W : WX} {k : Nat} {f : Addr} {fd : FuncData} {ps : List Str} {sp : Sp} {x : Str} {p pos : Pos}
end
section
variable {X : Cx} {W : WX} {k : Nat} {f : Addr} {fd : FuncData} {spec : SemF} {x : Str} {p pos : Pos}
end
end QV

set_option Elab.async false
set_option linter.all false
set_option maxRecDepth 100000
set_option maxHeartbeats 2000000
namespace QV
open PySem PySem.Spec PyProof.Rows L2
section
variable {X : Cx} {W : WX} {o e : Expr} {ra rb : Option Nat} {Ma Ml : List Nat} {pa pb : SemP} {pos apos : Pos}
end
end QV

set_option Elab.async false
set_option linter.all false
set_option maxRecDepth 100000
set_option maxHeartbeats 2000000
namespace QV
open PySem PySem.Spec PyProof.Rows L2
def rEqD0 : R2 := fun x y H Q => ∃ a b ks, x = .ref a ∧ y = .ref b ∧ H a = some (.dK ks) ∧ H b = some (.dK []) ∧ Q (.bl ks.isEmpty) H
theorem op_eqD0 {X : Cx} (hu : X.A.units < cLine) : OpR X (compareOp .Eq) rEqD0 := by
  intro pins s σ H x y v u Q I rx ry h
  obtain ⟨a, b, ks, rfl, rfl, ea, eb, q⟩ := h
  obtain rfl : v = Value.ref a := rx
  obtain rfl : u = Value.ref b := ry
  obtain ⟨_, ya, va, ra, da⟩ := (show ObjOk X.prog X.w H s.heap a (.dK ks) from I.hok a _ ea)
  obtain ⟨_, yb, vb, rb, db⟩ := (show ObjOk X.prog X.w H s.heap b (.dK []) from I.hok b _ eb)
  have hb0 : vb.length = 0 := rb.length.symm
  have ha0 : va.length = ks.length := ra.length.symm
  refine PySem.W.keq_eq (knd := mixKind X.prog X.w) (r := true) ya yb da db hu (fun e => ?_) ?_
  · have : va = [] := List.length_eq_zero_iff.mp (by omega)
    subst this
    exact .nil
  · refine ⟨.bl ks.isEmpty, H, I, ?_, q⟩
    show Value.bool (va.length == vb.length && true) = Value.bool ks.isEmpty
    rw [hb0, ha0]
    cases ks <;> rfl
def eqD0G (t u : T) (Q : T → Prop) : Prop := ∃ ks ds es, shK t = some (ks, ds) ∧ shK u = some ([], es) ∧ Q (.fz (.bl ks.isEmpty))
theorem g_eqD0 {K : PySem.W.Frag} : Op2 K rEqD0 eqD0G := by
  intro H ow n x y t u Q Qv rx ry h k
  obtain ⟨ks, ds, es, e1, e2, q⟩ := h
  obtain ⟨a, vs, rfl, c, hl, hz, r⟩ := rx.dK e1
  obtain ⟨b, ws, rfl, c2, hl2, hz2, r2⟩ := ry.dK e2
  refine ⟨a, b, ks.zip vs, rfl, rfl, c, c2, k _ _ H ow Stp.refl (Tq.fz_.mpr ?_) q⟩
  have : (ks.zip vs).isEmpty = ks.isEmpty := by
    cases ks with
    | nil => rfl
    | cons k ks =>
      cases vs with
      | nil => simp at hl
      | cons v vs => rfl
  rw [this]
  exact .bl _
section
variable {X : Cx} {W : WX} {Ma Mb : List Nat} {a b : Expr} {pa pb : SemP} {ra rb : Option Nat} {pos : Pos}
theorem t_eqD0 (hu : X.A.units + 65 < cLine) (ha : QP X W Ma ra a pa) (hb : QP X W Mb rb b pb) (hr : okR ra Mb = true := by decide) : QT X W (Ma ++ Mb) (.Compare a [.Eq] [b] pos) (sT (s2 pa pb eqD0G)) := t_cmpR (op_eqD0 (by omega)) g_eqD0 ha hb (nomark _) hr
end
end QV

set_option Elab.async false
set_option linter.all false
set_option maxRecDepth 100000
set_option maxHeartbeats 2000000
namespace QV
open PySem PySem.Spec PyProof.Rows L2
section
variable {X : Cx} {W : WX} {Ma Mb : List Nat} {a b : Expr} {pa pb : SemP} {ra rb : Option Nat} {pos : Pos}
theorem q_lrng2 {e1 e2 : Expr} {q1 q2 : SemE} {p p2 p3 : Pos} (hc : X.calm = true) (hg : Gl X "list") (hm : X.mg "list" = none) (hg2 : Gl X "range") (hm2 : X.mg "range" = none) (ha : QE X W Ma e1 q1) (hb : QE X W Mb e2 q2) (na : starEach [e1, e2] X.env = (false, eval e1 X.env) :: starEach [e2] X.env := by rfl)
    (nb : starEach [e2] X.env = (false, eval e2 X.env) :: starEach [] X.env := by rfl) (hp : (backTo p3 (starEach [e2] X.env)).any (·.1) = false := by rfl)
    (na2 : starEach [.Call (.Name "range" p2) [e1, e2] [] p3] X.env = (false, eval (.Call (.Name "range" p2) [e1, e2] [] p3) X.env) :: starEach [] X.env := by rfl) : QE X W (Ma ++ Mb) (.Call (.Name "list" p) [.Call (.Name "range" p2) [e1, e2] [] p3] [] pos)
      (fun env Q E => q1 env (fun t env1 => q2 env1 (fun u env2 => match t, u with | .fz (.int i), .fz (.int j) => 0 ≤ i ∧ i ≤ j ∧ j ≤ 16777216 ∧ Q (.ow .lst (rngD i (j - i).toNat)) env2 | _, _ => False) E) E) :=
  ⟨PE_imp (pe_listRg hc hg hm (prg_2 hg2 hm2 ha.run hb.run na nb hp) na2) fun σ H Qv ⟨n, ow, env, Q, E, s, hq, k, x⟩ => ⟨n, ow, env, _, E, s, hq, fun v t H1 ow1 env1 y1 s1 o1 r1 z1 =>
    ⟨n + 1, ow1, env1, _, E, s1, z1, fun w u H2 ow2 env2 y2 s2 o2 r2 z2 => by
      split at z2
      · rename_i i j
        have ev1 := Tq.rd r1
        cases ev1
        have ev2 := Tq.rd r2
        cases ev2
        obtain ⟨z3, z4, z5, z⟩ := z2
        refine ⟨i, j, rfl, rfl, RgOk.of_le (by omega) (by omega) (by omega) (by omega), fun p hp => ?_⟩
        have e1 : rgV i j = (List.range (j - i).toNat).map fun m => V.int (i + (m : Nat)) := rfl
        rw [e1]
        have rr : Rps X.K (Bs H2 ow2) ((List.range (j - i).toNat).map fun m => V.int (i + (m : Nat))) (rngD i (j - i).toNat) := by
          unfold rngD
          have := of_ints (K := X.K) (B := Bs H2 ow2) ((List.range (j - i).toNat).map fun m => (i + (m : Nat) : Int))
          rw [List.map_map, List.map_map] at this
          exact this
        have y12 := y1.trans y2 subl subr (Nat.le_refl _) (Nat.le_succ _) (M := Ma ++ Mb)
        exact k _ _ _ (Ow.put ow2 p (.tm n)) env2 (y12.trans (Stp.new hp) (fun _ h => h) nilsub (Nat.le_refl _) (Nat.le_refl _)) (s2.stp0 (n := n) (Stp.new hp)) (o1.trans o2 subl subr) (Tq.newL hp (by rw [List.length_map, List.length_range, sizeLine_eq]; omega) rr) z
      · exact z2.elim, x.step y1 o1 subl subr (Nat.le_refl _) (Nat.le_succ _)⟩, fun r d H' ow' env' y s' o => x r d H' ow' env' (y.mono subl (Nat.le_refl _)) s' (o.mono subl)⟩⟩
end
end QV

set_option Elab.async false
set_option linter.all false
set_option maxRecDepth 100000
set_option maxHeartbeats 4000000
namespace QV
open PySem PySem.Spec PyProof.Rows L2
section
variable {X : Cx} {W : WX} {M Ma Mb : List Nat} {k : Nat} {ps : List Str} {io : List Nat} {ks : List (Option Nat)} {e a : Expr} {es : List Expr} {qa : SemE} {qs : SemD} {pos : Pos}
theorem q_fnv {x : Str} {f : Addr} {p : Pos} (hg : Gl X x) (hm : X.mg x = some (.ref f)) (hd : (x == ("__debug__" : Str)) = false := by decide) : QE X W [] (.Name x p) (sC (.exc f f none [] [])) :=
  q_const (pe_glob (v := .ref f) hg hm rfl hd) fun _ => .exc0 f f
theorem pe_callFL {tab : List (Addr × Sp)} {ta : TE} {t : TA} (hF : ∀ c, c ∈ tab → ∃ fd, FnG X.prog X.w X.K X.mg X.base k c.1 fd ps c.2 ∧ PySem.W.keepIn X.K (.ref c.1) = true ∧ Binds X.K fd ps []) (hr : Room k X.A) (hG : X.A.guards = some []) (tk : L2.Takes X W)
    (h0 : PE X a ta) (ha : PA X (e :: es) t) (arm : ∀ env, eval (.Call a (e :: es) [] pos) env = (do callWith pos (← eval a env) [] (backTo pos (starEach (e :: es) env)) (backToKw pos (keywordEach [] env))) := by intro env; rfl)
    (he : starEach (e :: es) X.env = (false, eval e X.env) :: starEach es X.env := by rfl) (hpl : (backTo pos (starEach es X.env)).any (·.1) = false := by rfl) :
    PE X (.Call a (e :: es) [] pos) (fun σ H Q => ta σ H fun v H1 => ∃ c, c ∈ tab ∧ v = V.ref c.1 ∧ t σ H1 fun vs H2 => c.2 vs H2 Q fun cls d H' => W cls d σ H') := by
  constructor
  intro pins s σ H Q I h
  rw [arm]
  refine wpAny_bind ?_
  refine thn (h0.run pins s σ H _ I h) ?_
  rintro v s1 ⟨x, H1, I1, r1, c, hc, rfl, q1⟩
  cases r1
  obtain ⟨fd, F, hk, hb⟩ := hF c hc
  refine PySem.W.callWith_K (h₀ := X.base) I1.ok.mod.kin hk ?_ he hpl
  refine thn (ha.run pos pins s1 σ H1 _ I1 q1) ?_
  rintro us s2 ⟨vs, H2, I2, r, q⟩
  exact ⟨I2.kIn, runG F hr hG hb tk I2 r q⟩
def sCallFL (tab : List (Addr × SemF)) (ks : List (Option Nat)) (cs : List Nat) (qa : SemE) (qs : SemD) : SemE := fun env Q E => qa env (fun t env1 => ∃ c, c ∈ tab ∧ t = .fz (.exc c.1 c.1 none [] []) ∧ sCall c.2 ks cs qs env1 Q E) E
theorem q_callFL0 {tab : List (Addr × SemF)} (hF : ∀ c, c ∈ tab → ∃ fd, QFn X.prog X.w X.K X.mg X.base k c.1 fd ps io c.2 ∧ PySem.W.keepIn X.K (.ref c.1) = true ∧ Binds X.K fd ps []) (tk : L2.Takes X W) (hr : Room k X.A) (hG : X.A.guards = some [])
    (h0 : QE X W Ma a qa) (ha : QA X W Mb ks (e :: es) qs) (cs : List Nat) (hio : io.Nodup := by decide) (hK : okK ks io cs = true := by decide) (hn : ks.length = ps.length := by rfl)
    (arm : ∀ env, eval (.Call a (e :: es) [] pos) env = (do callWith pos (← eval a env) [] (backTo pos (starEach (e :: es) env)) (backToKw pos (keywordEach [] env))) := by intro env; rfl)
    (he : starEach (e :: es) X.env = (false, eval e X.env) :: starEach es X.env := by rfl) (hpl : (backTo pos (starEach es X.env)).any (·.1) = false := by rfl) : QE X W (Ma ++ (Mb ++ cs)) (.Call a (e :: es) [] pos) (sCallFL tab ks cs qa qs) :=
  ⟨PE_imp (pe_callFL (tab := tab.map fun c => (c.1, spQ X.K ps.length io c.2)) (fun c hc => by
      obtain ⟨c', h1, rfl⟩ := List.mem_map.mp hc
      obtain ⟨fd, F, h2, h3⟩ := hF c' h1
      exact ⟨fd, F, h2, h3⟩) hr hG tk h0.run ha.run arm he hpl) fun σ H Qv ⟨n, ow, env, Q, E, st, hq, kk, xx⟩ => ⟨n, ow, env, _, E, st, hq, fun v t H1 ow1 env1 y1 s1 o1 r1 ⟨c, hc, ec, z1⟩ => by
    subst ec
    have r2 := Tq.fz_.mp r1
    cases r2
    refine ⟨_, List.mem_map.mpr ⟨c, hc, rfl⟩, rfl, n, ow1, env1, _, E, s1, z1, fun vs ds H2 ow2 env2 y2 s2 o2 l1 l2 hv z => ?_, xx.step y1 o1 subl (fun i hi => subr i (subl i hi)) (Nat.le_refl _) (Nat.le_refl _)⟩
    have y12 : Stp (Ma ++ (Mb ++ cs)) n H ow H2 ow2 := y1.trans y2 subl (fun i hi => subr i (subl i hi)) (Nat.le_refl _) (Nat.le_refl _)
    have o12 : Out (Ma ++ (Mb ++ cs)) env env2 := o1.trans o2 subl (fun i hi => subr i (subl i hi))
    split at z
    · rename_i args ea
      exact call_run hio hK hn s2 l1 hv l2 ea z (fun v t H3 ow3 env3 y3 s3 o3 r3 z3 => kk v t H3 ow3 env3 (y12.trans y3 (fun _ h => h) (fun i hi => subr i (subr i hi)) (Nat.le_refl _) (Nat.le_refl _)) s3 (o12.trans o3 (fun _ h => h) (fun i hi => subr i (subr i hi))) r3 z3) (xx.step y12 o12 (fun _ h => h) (fun i hi => subr i (subr i hi)) (Nat.le_refl _) (Nat.le_refl _))
    · exact z.elim, fun r d H' ow' env' y s' o => xx r d H' ow' env' (y.mono subl (Nat.le_refl _)) s' (o.mono subl)⟩⟩
def fa (mg : Str → Option Value) (x : Str) : Addr := match mg x with
  | some (.ref f) => f
  | _ => default
theorem q_fnc {x : Str} {p : Pos} {spec : SemF} {j : Nat} (a : Addr) (C : Callee X.prog X.w X.K X.mg X.base j x ps io spec) (hg : Gl X x) (hd : (x == ("__debug__" : Str)) = false := by decide) (ha : a = fa X.mg x := by rfl) : QE X W [] (.Name x p) (sC (.exc a a none [] [])) := by
  obtain ⟨f, _, _, hm, _⟩ := C
  have e : fa X.mg x = f := by unfold fa; rw [hm]
  exact q_fnv hg (by rw [ha, e]; exact hm) hd
def FnOf (X : Cx) (k : Nat) (ps : List Str) (io : List Nat) (c : Addr × SemF) : Prop := ∃ fd, QFn X.prog X.w X.K X.mg X.base k c.1 fd ps io c.2 ∧ PySem.W.keepIn X.K (.ref c.1) = true ∧ Binds X.K fd ps []
theorem fn_nil : ∀ c, c ∈ ([] : List (Addr × SemF)) → FnOf X k ps io c := fun _ h => nomatch h
theorem fn_cons {x : Str} {spec : SemF} {j : Nat} {tab : List (Addr × SemF)} (a : Addr) (C : Callee X.prog X.w X.K X.mg X.base j x ps io spec) (h : ∀ c, c ∈ tab → FnOf X k ps io c) (hj : j ≤ k := by decide) (ha : a = fa X.mg x := by rfl) : ∀ c, c ∈ (a, spec) :: tab → FnOf X k ps io c := fun c hc => by
  rcases List.mem_cons.mp hc with rfl | hc
  · obtain ⟨f, fd, F, hm, hk, hb⟩ := C
    have e : a = f := by rw [ha]; unfold fa; rw [hm]
    refine ⟨fd, ?_, ?_, hb⟩
    · show QFn _ _ _ _ _ _ a _ _ _ _
      rw [e]; exact FnG.mono F hj
    · show PySem.W.keepIn X.K (.ref a) = true
      rw [e]; exact hk
  · exact h c hc
theorem q_callFL {tab : List (Addr × SemF)} (hF : ∀ c, c ∈ tab → FnOf X k ps io c) (tk : L2.Takes X W) (hr : Room k X.A) (hG : X.A.guards = some [])
    (h0 : QE X W Ma a qa) (ha : QA X W Mb ks (e :: es) qs) (cs : List Nat) (hio : io.Nodup := by decide) (hK : okK ks io cs = true := by decide) (hn : ks.length = ps.length := by rfl)
    (arm : ∀ env, eval (.Call a (e :: es) [] pos) env = (do callWith pos (← eval a env) [] (backTo pos (starEach (e :: es) env)) (backToKw pos (keywordEach [] env))) := by intro env; rfl)
    (he : starEach (e :: es) X.env = (false, eval e X.env) :: starEach es X.env := by rfl) (hpl : (backTo pos (starEach es X.env)).any (·.1) = false := by rfl) : QE X W (Ma ++ (Mb ++ cs)) (.Call a (e :: es) [] pos) (sCallFL tab ks cs qa qs) :=
  q_callFL0 hF tk hr hG h0 ha cs hio hK hn arm he hpl
end
end QV


set_option Elab.async false
set_option linter.all false
set_option maxRecDepth 100000
set_option maxHeartbeats 4000000
namespace My
open PySem L2 QV
def top (i : Nat) : Stmt := PySem.Challenge.pw_bedstone_k30_wide_and_long.main.body.getD i (.Pass ⟨0, 0, 0, 0⟩)
structure Bt (mg : Str → Option Value) : Prop where
  abs : mg "abs" = none
  dict : mg "dict" = none
  enumerate : mg "enumerate" = none
  len : mg "len" = none
  list : mg "list" = none
  range : mg "range" = none
  repr : mg "repr" = none
  reversed : mg "reversed" = none
  sorted : mg "sorted" = none

abbrev s_holders_of : Stmt := top 1
theorem sc_holders_of : FnScope ["given", "found", "one", "right"] ["given"] (defScope s_holders_of) := ⟨rfl, rfl, rfl, by decide +kernel, rfl, by decide +kernel, by decide +kernel⟩
abbrev s_has_free_right : Stmt := top 2
theorem sc_has_free_right : FnScope ["wants", "held", "layer", "one", "right"] ["wants", "held", "layer"] (defScope s_has_free_right) := ⟨rfl, rfl, rfl, by decide +kernel, rfl, by decide +kernel, by decide +kernel⟩
abbrev s_layers_from : Stmt := top 3
theorem sc_layers_from : FnScope ["wants", "held", "at", "layers", "layer", "seen", "further", "one", "right"] ["wants", "held", "at"] (defScope s_layers_from) := ⟨rfl, rfl, rfl, by decide +kernel, rfl, by decide +kernel, by decide +kernel⟩
abbrev s_leading_rights : Stmt := top 4
theorem sc_leading_rights : FnScope ["wants", "held", "layers", "found", "ways", "layer", "now", "one", "right"] ["wants", "held", "layers"] (defScope s_leading_rights) := ⟨rfl, rfl, rfl, by decide +kernel, rfl, by decide +kernel, by decide +kernel⟩
abbrev s_look_out : Stmt := top 5
theorem sc_look_out : FnScope ["wants", "given", "at", "held", "layers", "row", "one", "ways", "right"] ["wants", "given", "at"] (defScope s_look_out) := ⟨rfl, rfl, rfl, by decide +kernel, rfl, by decide +kernel, by decide +kernel⟩
abbrev s_turned_along : Stmt := top 6
theorem sc_turned_along : FnScope ["given", "row", "found", "one", "right"] ["given", "row"] (defScope s_turned_along) := ⟨rfl, rfl, rfl, by decide +kernel, rfl, by decide +kernel, by decide +kernel⟩
abbrev s_filled_from : Stmt := top 7
theorem sc_filled_from : FnScope ["wants", "given", "found", "at"] ["wants", "given"] (defScope s_filled_from) := ⟨rfl, rfl, rfl, by decide +kernel, rfl, by decide +kernel, by decide +kernel⟩
abbrev s_more_than_wanted : Stmt := top 8
theorem sc_more_than_wanted : FnScope ["wants", "some", "rights", "one", "right"] ["wants", "some"] (defScope s_more_than_wanted) := ⟨rfl, rfl, rfl, by decide +kernel, rfl, by decide +kernel, by decide +kernel⟩
abbrev s_bag : Stmt := top 10
theorem sc_bag : FnScope ["_law_script", "_law_cell"] ["_law_script"] (defScope s_bag) := ⟨rfl, rfl, rfl, by decide +kernel, rfl, by decide +kernel, by decide +kernel⟩
abbrev s_take : Stmt := top 11
theorem sc_take : FnScope ["_law_bag_here", "_law_many", "_law_cell", "_law_value", "_law_first", "_law_second"] ["_law_bag_here", "_law_many"] (defScope s_take) := ⟨rfl, rfl, rfl, by decide +kernel, rfl, by decide +kernel, by decide +kernel⟩
abbrev s_alike : Stmt := top 12
theorem sc_alike : FnScope ["_law_found", "_law_due_here"] ["_law_found", "_law_due_here"] (defScope s_alike) := ⟨rfl, rfl, rfl, by decide +kernel, rfl, by decide +kernel, by decide +kernel⟩
abbrev s_mixed : Stmt := top 13
theorem sc_mixed : FnScope ["_law_bag_here", "_law_many", "_law_pool", "_law_found"] ["_law_bag_here", "_law_many"] (defScope s_mixed) := ⟨rfl, rfl, rfl, by decide +kernel, rfl, by decide +kernel, by decide +kernel⟩
abbrev s_runs : Stmt := top 14
theorem sc_runs : FnScope ["_law_bag_here", "_law_many", "_law_top", "_law_wants", "_law_k", "_law_first", "_law_run", "_law_j", "_law_given", "_law_free", "_law_right"] ["_law_bag_here"] (defScope s_runs) := ⟨rfl, rfl, rfl, by decide +kernel, rfl, by decide +kernel, by decide +kernel⟩
abbrev s_chain : Stmt := top 15
theorem sc_chain : FnScope ["_law_bag_here", "_law_many", "_law_lefts", "_law_row", "_law_wants", "_law_one", "_law_given", "_law_k", "_law_right", "_law_some"] ["_law_bag_here"] (defScope s_chain) := ⟨rfl, rfl, rfl, by decide +kernel, rfl, by decide +kernel, by decide +kernel⟩
abbrev s_star : Stmt := top 16
theorem sc_star : FnScope ["_law_bag_here", "_law_many", "_law_lefts", "_law_wants", "_law_one", "_law_given", "_law_k"] ["_law_bag_here"] (defScope s_star) := ⟨rfl, rfl, rfl, by decide +kernel, rfl, by decide +kernel, by decide +kernel⟩
abbrev s_rounds : Stmt := top 17
theorem sc_rounds : FnScope ["_law_wants", "_law_held", "_law_at", "_law_layers", "_law_seen", "_law_turn", "_law_free", "_law_further", "_law_one", "_law_right"] ["_law_wants", "_law_held", "_law_at"] (defScope s_rounds) := ⟨rfl, rfl, rfl, by decide +kernel, rfl, by decide +kernel, by decide +kernel⟩
abbrev s_look : Stmt := top 18
theorem sc_look : FnScope ["_law_wants", "_law_given", "_law_at", "_law_held", "_law_one", "_law_right", "_law_layers", "_law_free", "_law_leads_here", "_law_good", "_law_layer", "_law_fresh", "_law_some", "_law_row"] ["_law_wants", "_law_given", "_law_at"] (defScope s_look) := ⟨rfl, rfl, rfl, by decide +kernel, rfl, by decide +kernel, by decide +kernel⟩
abbrev s_leads : Stmt := top 19
theorem sc_leads : FnScope ["_law_held", "_law_good", "_law_right"] ["_law_held", "_law_good", "_law_right"] (defScope s_leads) := ⟨rfl, rfl, rfl, by decide +kernel, rfl, by decide +kernel, by decide +kernel⟩
abbrev s_turned : Stmt := top 20
theorem sc_turned : FnScope ["_law_given", "_law_row", "_law_found", "_law_one", "_law_right"] ["_law_given", "_law_row"] (defScope s_turned) := ⟨rfl, rfl, rfl, by decide +kernel, rfl, by decide +kernel, by decide +kernel⟩
abbrev s_filled : Stmt := top 21
theorem sc_filled : FnScope ["_law_wants", "_law_given", "_law_now", "_law_at"] ["_law_wants", "_law_given"] (defScope s_filled) := ⟨rfl, rfl, rfl, by decide +kernel, rfl, by decide +kernel, by decide +kernel⟩
abbrev s_more : Stmt := top 22
theorem sc_more : FnScope ["_law_wants", "_law_some", "_law_rights", "_law_one", "_law_right"] ["_law_wants", "_law_some"] (defScope s_more) := ⟨rfl, rfl, rfl, by decide +kernel, rfl, by decide +kernel, by decide +kernel⟩
abbrev s_due : Stmt := top 23
theorem sc_due : FnScope ["_law_which", "_law_wants", "_law_given", "_law_at"] ["_law_which", "_law_wants", "_law_given", "_law_at"] (defScope s_due) := ⟨rfl, rfl, rfl, by decide +kernel, rfl, by decide +kernel, by decide +kernel⟩
abbrev s_said : Stmt := top 24
theorem sc_said : FnScope ["_law_which", "_law_wants", "_law_given", "_law_at", "_law_row"] ["_law_which", "_law_wants", "_law_given", "_law_at"] (defScope s_said) := ⟨rfl, rfl, rfl, by decide +kernel, rfl, by decide +kernel, by decide +kernel⟩
abbrev s_law : Stmt := top 25
theorem sc_law : FnScope ["_law_script", "_law_bag_here", "_law_shape", "_law_wants", "_law_given", "_law_empties", "_law_k", "_law_at", "_law_first", "_law_which", "_law_handed", "_law_some"] ["_law_script"] (defScope s_law) := ⟨rfl, rfl, rfl, by decide +kernel, rfl, by decide +kernel, by decide +kernel⟩
local macro_rules | `(tactic| walk_at "v") => `(tactic| first
  | refine ⟨_, rfl, ?_⟩
  | refine ⟨.inl rfl, ?_⟩
  | refine ⟨rfl, ?_⟩
  | refine ⟨cmulR (by decide) (by decide), ?_⟩
  | refine ⟨cmulL (by decide) (by decide), ?_⟩
  | refine ⟨cmulR (by omega) (by omega), ?_⟩
  | refine ⟨cmulL (by omega) (by omega), ?_⟩
  | refine ⟨show (0 : Int) < _ by omega, ?_⟩
  | refine ⟨cdivS (by omega) (by omega), ?_⟩
  | refine ⟨cdivB (by omega) (by omega), ?_⟩
  | refine ⟨show CPow _ _ from ⟨by decide, by decide, by decide⟩, ?_⟩
  | refine ⟨_, _, rfl, (show IsBag _ by assumption), (show (0 : Int) < _ by omega), (by omega), fun _ _ _ _ _ => ?_⟩
  | walk_at "m")
local macro_rules | `(tactic| walk_at "vs") => `(tactic| repeat walk_at "v")
local macro_rules | `(tactic| walk_at "vn") => `(tactic| repeat (walk_at "v"; walk_at "nf"))
local macro_rules | `(tactic| walk_at "m") => `(tactic| refine ⟨_, fun _ => (by (walk_at "vs"); first | exact rfl | exact ⟨rfl, rfl⟩), ?_⟩)
local macro_rules | `(tactic| walk_at "w") => `(tactic| conv => whnf)
local macro_rules | `(tactic| walk_at "so") => `(tactic| first | omega | (simp; done) | (simp; omega) | (simp at *; omega))
local macro_rules | `(tactic| walk_at "nf") => `(tactic| try dsimp only [env0, putE_nil, putE_cons, putO_nil, putO_cons, nf_set0, nf_setS, wipeE, rstE, nf_map, nf_map0, nf_app, nf_app0, List.length_cons, List.length_nil, Nat.reduceAdd, Nat.reduceSub, List.replicate_succ, List.replicate_zero])
local macro_rules | `(tactic| walk_at "no") => `(tactic| refine ⟨.inl rfl, fun z => absurd z (by simp [eqD, T.d]), fun _ => ?_⟩)
local macro_rules | `(tactic| walk_at "yes") => `(tactic| refine ⟨.inl rfl, fun _ => ?_, fun z => absurd z (by simp [eqD, T.d])⟩)
local macro_rules | `(tactic| walk_at "ns") => `(tactic| refine ⟨.inl rfl, fun z => absurd z (by decide +kernel), fun _ => ?_⟩)
local macro_rules | `(tactic| walk_at "sk") => `(tactic| (walk_at "nf"; repeat (walk_at "ns"; walk_at "nf")))
local macro_rules | `(tactic| walk_at "sy") => `(tactic| (walk_at "sk"; walk_at "yes"; walk_at "nf"))

def mixedS : SemF := fun args Q E => ∃ (t : T) (n : Nat), args = [t, .fz (.int (n : Nat))] ∧ IsBag t ∧ n ≤ 100 ∧ ∀ (ks : List Nat) t', ks.Perm (List.range n) → IsBag t' → Q (.ow .lst (ks.map fun k => .int (k : Nat))) [t']
abbrev intsD (xs : List Int) : D := .nd .lst (xs.map .int)
abbrev wantsD (W : List (List Int)) : D := .nd .lst (W.map intsD)
abbrev giD : Option Int → D | some x => .int x | none => .non
abbrev givenD (G : List (Option Int)) : D := .nd .lst (G.map giD)
def rowOk (r : List Int) : Prop := r.Pairwise (· < ·) ∧ (∀ x, x ∈ r → 0 ≤ x ∧ x < 200) ∧ r.length ≤ 100
def wantsOk (W : List (List Int)) : Prop := (1 ≤ W.length ∧ W.length ≤ 100) ∧ ∀ r, r ∈ W → rowOk r
def givenOk (W : List (List Int)) (G : List (Option Int)) : Prop := G.length = W.length ∧ (∀ (k : Nat) (x : Int), G[k]? = some (some x) → ∃ r, W[k]? = some r ∧ x ∈ r) ∧ ∀ (i j : Nat) (x : Int), G[i]? = some (some x) → G[j]? = some (some x) → i = j
theorem cut_take {α : Type} {l : List α} {a : Int} (h : 0 ≤ a) : cutL l none (some a) = l.take a.toNat := by
  unfold cutL
  simp only [HT.sIx, if_neg (show ¬ a < 0 by omega), Nat.sub_zero, List.drop_zero]
  rcases Nat.le_total a.toNat l.length with z | z
  · rw [Nat.min_eq_left z]
  · rw [Nat.min_eq_right z, List.take_of_length_le (Nat.le_refl _), List.take_of_length_le z]
theorem rngI {m : Nat} : rngD 0 m = ((List.range m).map fun i => ((i : Nat) : Int)).map D.int := by
  simp [rngD, List.map_map, Function.comp_def]
abbrev rowT (r : List Int) : T := .ow .lst (r.map .int)
theorem given_set {W : List (List Int)} {G : List (Option Int)} {k : Nat} {r : List Int} {v : Int} (h : givenOk W G) (hr : W[k]? = some r) (hv : v ∈ r) (hn : ∀ i : Nat, G[i]? ≠ some (some v)) : givenOk W (G.set k (some v)) := by
  obtain ⟨h1, h2, h3⟩ := h
  have hk : k < G.length := by rw [h1]; exact (List.getElem?_eq_some_iff.mp hr).1
  have key : ∀ (i : Nat) (x : Int), (G.set k (some v))[i]? = some (some x) → (i = k ∧ x = v) ∨ (i ≠ k ∧ G[i]? = some (some x)) := fun i x hi => by
    by_cases e : i = k
    · subst e
      rw [List.getElem?_set_self hk] at hi
      cases hi
      exact .inl ⟨rfl, rfl⟩
    · rw [List.getElem?_set_ne (fun z => e z.symm)] at hi
      exact .inr ⟨e, hi⟩
  refine ⟨by rw [List.length_set]; exact h1, fun i x hi => ?_, fun i j x hi hj => ?_⟩
  · rcases key i x hi with ⟨rfl, rfl⟩ | ⟨_, z⟩
    · exact ⟨r, hr, hv⟩
    · exact h2 i x z
  · rcases key i x hi with ⟨rfl, rfl⟩ | ⟨_, z⟩
    · rcases key j x hj with ⟨rfl, _⟩ | ⟨_, z2⟩
      · rfl
      · exact absurd z2 (hn j)
    · rcases key j x hj with ⟨rfl, rfl⟩ | ⟨_, z2⟩
      · exact absurd z (hn i)
      · exact h3 i j x z z2

def holder (G : List (Option Int)) (x : Int) : Option Nat := (List.range G.length).find? fun i => G[i]? == some (some x)
def gInj (G : List (Option Int)) : Prop := ∀ (i j : Nat) (x : Int), G[i]? = some (some x) → G[j]? = some (some x) → i = j
theorem holder_some {G : List (Option Int)} {x : Int} {i : Nat} (h : holder G x = some i) : G[i]? = some (some x) := by
  have := List.find?_some h
  simpa using this
theorem holder_none {G : List (Option Int)} {x : Int} (h : holder G x = none) (i : Nat) : G[i]? ≠ some (some x) := fun e => by
  have h1 := List.find?_eq_none.mp h i (List.mem_range.mpr (List.getElem?_eq_some_iff.mp e).1)
  simp [e] at h1
theorem holder_of {G : List (Option Int)} {x : Int} {i : Nat} (hi : gInj G) (h : G[i]? = some (some x)) : holder G x = some i := by
  cases e : holder G x with
  | none => exact absurd h (holder_none e i)
  | some j => rw [hi _ _ _ (holder_some e) h]
theorem holder_lt {G : List (Option Int)} {x : Int} {i : Nat} (h : holder G x = some i) : i < G.length := (List.getElem?_eq_some_iff.mp (holder_some h)).1
def hpairs (G : List (Option Int)) : List (Int × Nat) := G.zipIdx.filterMap fun p => p.1.map fun x => (x, p.2)
def natK (i : Nat) : Key := Sum.inl ((i : Nat) : Int)
def hK (G : List (Option Int)) : List Key := (hpairs G).map fun p => Sum.inl p.1
def hV (G : List (Option Int)) : List D := (hpairs G).map fun p => .int (p.2 : Nat)
abbrev heldD (G : List (Option Int)) : D := .nd (.dK (hK G)) (hV G)
theorem mem_hpairs {G : List (Option Int)} {p : Int × Nat} : p ∈ hpairs G ↔ G[p.2]? = some (some p.1) := by
  unfold hpairs
  rw [List.mem_filterMap]
  constructor
  · rintro ⟨⟨o, i⟩, h1, h2⟩
    rw [List.mem_zipIdx_iff_getElem?] at h1
    cases o with
    | none => simp at h2
    | some x => simp at h2; subst h2; exact h1
  · intro h
    exact ⟨(some p.1, p.2), by rw [List.mem_zipIdx_iff_getElem?]; exact h, rfl⟩
theorem look_pairs {x : Int} : ∀ ps : List (Int × Nat), look (ps.map fun p => (Sum.inl p.1 : Key)) (ps.map fun p => D.int (p.2 : Nat)) (Sum.inl x) = (ps.find? fun p => p.1 == x).map fun p => D.int (p.2 : Nat)
  | [] => rfl
  | p :: ps => by
    rw [List.map_cons, List.map_cons, look]
    by_cases e : p.1 = x
    · rw [if_pos (by rw [e]), List.find?_cons_of_pos (by simp [e])]; rfl
    · rw [if_neg (fun z => e (Sum.inl.inj z)), List.find?_cons_of_neg (by simp [e]), look_pairs ps]
theorem look_held {G : List (Option Int)} {x : Int} (hi : gInj G) : look (hK G) (hV G) (Sum.inl x) = (holder G x).map fun i => D.int (i : Nat) := by
  unfold hK hV
  rw [look_pairs]
  cases e : (hpairs G).find? fun p => p.1 == x with
  | none =>
    cases e2 : holder G x with
    | none => rfl
    | some i =>
      have := List.find?_eq_none.mp e (x, i) (mem_hpairs.mpr (holder_some e2))
      simp at this
  | some p =>
    have h1 := List.find?_some e
    have h2 := mem_hpairs.mp (List.mem_of_find?_eq_some e)
    simp at h1
    rw [h1] at h2
    rw [holder_of hi h2]; rfl
def hadd (o : Option Int) (j : Nat) : List (Int × Nat) := match o with
  | none => []
  | some x => [(x, j)]
theorem hpairs_snoc (G : List (Option Int)) (o : Option Int) : hpairs (G ++ [o]) = hpairs G ++ hadd o G.length := by
  unfold hpairs
  rw [List.zipIdx_append, List.filterMap_append]
  cases o <;> simp [hadd]
theorem dget_held {G : List (Option Int)} {x : Int} (hi : gInj G) : dGet (.fz (heldD G)) (.fz (.int x)) = some ((holder G x).map fun i => D.int (i : Nat)) := by
  rw [← look_held hi]; rfl
theorem hpairs_len (G : List (Option Int)) : (hpairs G).length ≤ G.length := by
  unfold hpairs
  have := List.length_filterMap_le (fun p : Option Int × Nat => p.1.map fun x => (x, p.2)) G.zipIdx
  rwa [List.length_zipIdx] at this
abbrev rowW (W : List (List Int)) (i : Nat) : List Int := W.getD i []
def freeL (W : List (List Int)) (G : List (Option Int)) (L : List Nat) : Bool := L.any fun i => (rowW W i).any fun x => (holder G x).isNone
def wantL (W : List (List Int)) (L : List Nat) (x : Int) : Bool := L.any fun i => (rowW W i).contains x
def nxt (W : List (List Int)) (G : List (Option Int)) (seen L : List Nat) : List Nat := (List.range W.length).filter fun i => match G.getD i none with
  | some x => wantL W L x && !seen.contains i
  | none => false
theorem mem_nxt {W : List (List Int)} {G : List (Option Int)} {seen L : List Nat} (hl : G.length = W.length) {i : Nat} : i ∈ nxt W G seen L ↔ ∃ x, G[i]? = some (some x) ∧ wantL W L x = true ∧ i ∉ seen := by
  unfold nxt
  rw [List.mem_filter, List.mem_range]
  constructor
  · rintro ⟨h1, h2⟩
    split at h2
    · rename_i x e
      rw [Bool.and_eq_true] at h2
      rw [List.getD_eq_getElem?_getD, List.getElem?_eq_getElem (by omega)] at e
      exact ⟨x, by rw [List.getElem?_eq_getElem (by omega), ← e]; rfl, h2.1, by simpa using h2.2⟩
    · cases h2
  · rintro ⟨x, h1, h2, h3⟩
    have hlt := (List.getElem?_eq_some_iff.mp h1).1
    refine ⟨by omega, ?_⟩
    rw [List.getD_eq_getElem?_getD, h1]
    simp [h2, h3]
theorem nxt_sorted {W : List (List Int)} {G : List (Option Int)} {seen L : List Nat} : (nxt W G seen L).Pairwise (· < ·) := List.pairwise_lt_range.filter _
theorem nxt_lt {W : List (List Int)} {G : List (Option Int)} {seen L : List Nat} {i : Nat} (h : i ∈ nxt W G seen L) : i < W.length := List.mem_range.mp (List.mem_filter.mp h).1
theorem nxt_congr {W : List (List Int)} {G : List (Option Int)} {seen seen' L L' : List Nat} (h : ∀ i, i ∈ seen ↔ i ∈ seen') (h2 : ∀ i, i ∈ L ↔ i ∈ L') : nxt W G seen L = nxt W G seen' L' := by
  unfold nxt
  congr 1
  funext i
  have e1 : seen.contains i = seen'.contains i := by rw [Bool.eq_iff_iff]; simp [h]
  have e2 : ∀ x, wantL W L x = wantL W L' x := fun x => by
    unfold wantL
    rw [Bool.eq_iff_iff]; simp [h2]
  simp only [e1, e2]
theorem sorted_eq {α : Type} {r : α → α → Prop} (ir : ∀ a, ¬ r a a) (tr : ∀ a b, r a b → ¬ r b a) : ∀ {l m : List α}, l.Pairwise r → m.Pairwise r → (∀ a, a ∈ l ↔ a ∈ m) → l = m
  | [], [], _, _, _ => rfl
  | [], b :: m, _, _, h => by have := (h b).mpr (by simp); simp at this
  | a :: l, [], _, _, h => by have := (h a).mp (by simp); simp at this
  | a :: l, b :: m, hl, hm, h => by
    have hl' := List.pairwise_cons.mp hl
    have hm' := List.pairwise_cons.mp hm
    have e : a = b := by
      rcases List.mem_cons.mp ((h a).mp (by simp)) with z | z
      · exact z
      · rcases List.mem_cons.mp ((h b).mpr (by simp)) with y | y
        · exact y.symm
        · exact absurd (hl'.1 b y) (tr _ _ (hm'.1 a z))
    subst e
    rw [sorted_eq ir tr hl'.2 hm'.2 fun c => ⟨fun hc => by
      rcases List.mem_cons.mp ((h c).mp (by simp [hc])) with z | z
      · subst z; exact absurd (hl'.1 c hc) (ir c)
      · exact z, fun hc => by
      rcases List.mem_cons.mp ((h c).mpr (by simp [hc])) with z | z
      · subst z; exact absurd (hm'.1 c hc) (ir c)
      · exact z⟩]
inductive Lays (W : List (List Int)) (G : List (Option Int)) : List Nat → List Nat → List (List Nat) → Bool → Prop
  | free {seen L : List Nat} : freeL W G L = true → Lays W G seen L [L] true
  | stop {seen L : List Nat} : freeL W G L = false → nxt W G seen L = [] → Lays W G seen L [L] false
  | step {seen L N : List Nat} {Ls : List (List Nat)} {fl : Bool} : freeL W G L = false → nxt W G seen L = N → N ≠ [] → Lays W G (seen ++ N) N Ls fl → Lays W G seen L (L :: Ls) fl
theorem Lays.congr {W : List (List Int)} {G : List (Option Int)} {seen L : List Nat} {Ls : List (List Nat)} {fl : Bool} (h : Lays W G seen L Ls fl) : ∀ {seen' : List Nat}, (∀ i, i ∈ seen ↔ i ∈ seen') → Lays W G seen' L Ls fl := by
  induction h with
  | free h => intro _ _; exact .free h
  | stop h h2 => intro _ e; exact .stop h (by rw [← nxt_congr e fun _ => Iff.rfl]; exact h2)
  | step h h2 h3 h4 ih => intro _ e; exact .step h (by rw [← nxt_congr e fun _ => Iff.rfl]; exact h2) h3 (ih fun i => by simp [e])
theorem Lays.det {W : List (List Int)} {G : List (Option Int)} {seen L : List Nat} {Ls : List (List Nat)} {fl : Bool} (h : Lays W G seen L Ls fl) : ∀ {Ls' : List (List Nat)} {fl' : Bool}, Lays W G seen L Ls' fl' → Ls = Ls' ∧ fl = fl' := by
  induction h with
  | free h =>
    intro _ _ h'
    cases h' with
    | free _ => exact ⟨rfl, rfl⟩
    | stop a _ => rw [h] at a; cases a
    | step a _ _ _ => rw [h] at a; cases a
  | stop h h2 =>
    intro _ _ h'
    cases h' with
    | free a => rw [h] at a; cases a
    | stop _ _ => exact ⟨rfl, rfl⟩
    | step _ a b _ => rw [h2] at a; exact absurd a.symm b
  | step h h2 h3 h4 ih =>
    intro _ _ h'
    cases h' with
    | free a => rw [h] at a; cases a
    | stop _ a => rw [h2] at a; exact absurd a h3
    | step a b c d =>
      rw [h2] at b
      subst b
      obtain ⟨e1, e2⟩ := ih d
      rw [e1, e2]; exact ⟨rfl, rfl⟩
theorem Lays.head {W : List (List Int)} {G : List (Option Int)} {seen L : List Nat} {Ls : List (List Nat)} {fl : Bool} (h : Lays W G seen L Ls fl) : ∃ Ls', Ls = L :: Ls' := by
  cases h <;> exact ⟨_, rfl⟩
theorem Lays.each {W : List (List Int)} {G : List (Option Int)} {seen L : List Nat} {Ls : List (List Nat)} {fl : Bool} (h : Lays W G seen L Ls fl) (h1 : L.Nodup) (h2 : ∀ i, i ∈ L → i < W.length) : ∀ M, M ∈ Ls → M.Nodup ∧ ∀ i, i ∈ M → i < W.length := by
  induction h with
  | free h => intro M hM; simp at hM; subst hM; exact ⟨h1, h2⟩
  | stop h _ => intro M hM; simp at hM; subst hM; exact ⟨h1, h2⟩
  | step h e _ _ ih =>
    intro M hM
    rcases List.mem_cons.mp hM with z | z
    · subst z; exact ⟨h1, h2⟩
    · subst e
      exact ih (nxt_sorted.imp fun h => by omega) (fun i hi => nxt_lt hi) M z
theorem Lays.frees {W : List (List Int)} {G : List (Option Int)} {seen L : List Nat} {Ls : List (List Nat)} {fl : Bool} (h : Lays W G seen L Ls fl) : (∀ k M, k + 1 < Ls.length → Ls[k]? = some M → freeL W G M = false) ∧ ∀ M, Ls.getLast? = some M → freeL W G M = fl := by
  induction h with
  | free h => exact ⟨fun k M hk => by simp at hk, fun M hM => by simp at hM; subst hM; exact h⟩
  | stop h _ => exact ⟨fun k M hk => by simp at hk, fun M hM => by simp at hM; subst hM; exact h⟩
  | step h e hn hd ih =>
    obtain ⟨Ls', rfl⟩ := hd.head
    refine ⟨fun k M hk hM => ?_, fun M hM => ih.2 M (by simpa [List.getLast?_cons_cons] using hM)⟩
    cases k with
    | zero => simp at hM; subst hM; exact h
    | succ k => exact ih.1 k M (by simpa using hk) (by simpa using hM)
theorem nodup_sub {α : Type} [DecidableEq α] : ∀ {l m : List α}, l.Nodup → (∀ x, x ∈ l → x ∈ m) → l.length ≤ m.length
  | [], _, _, _ => Nat.zero_le _
  | a :: l, m, hn, h => by
    obtain ⟨h1, h2⟩ := List.nodup_cons.mp hn
    have ha := h a (by simp)
    have := nodup_sub (l := l) (m := m.erase a) h2 fun x hx => (List.mem_erase_of_ne (fun e => h1 (by rw [← e]; exact hx))).mpr (h x (by simp [hx]))
    rw [List.length_erase_of_mem ha] at this
    have hp : 0 < m.length := List.length_pos_of_mem ha
    simp only [List.length_cons]
    omega
theorem few_lt {n : Nat} {s : List Nat} (hn : s.Nodup) (hs : ∀ i, i ∈ s → i < n) : s.length ≤ n := by
  have := nodup_sub hn (m := List.range n) fun i hi => List.mem_range.mpr (hs i hi)
  simpa using this
theorem Lays.few {W : List (List Int)} {G : List (Option Int)} (hl : G.length = W.length) {seen L : List Nat} {Ls : List (List Nat)} {fl : Bool} (h : Lays W G seen L Ls fl) : seen.Nodup → (∀ i, i ∈ seen → i < W.length) → Ls.length + seen.length ≤ W.length + 1 := by
  induction h with
  | free h => intro hn hs; have := few_lt hn hs; simp; omega
  | stop h _ => intro hn hs; have := few_lt hn hs; simp; omega
  | @step seen L N Ls fl h e hne hd ih =>
    intro hn hs
    subst e
    have := ih (List.nodup_append.mpr ⟨hn, nxt_sorted.imp fun h => by omega, fun a ha b hb e => by
      subst e
      obtain ⟨_, _, _, z⟩ := (mem_nxt hl).mp hb
      exact z ha⟩) (fun i hi => by
      rcases List.mem_append.mp hi with z | z
      · exact hs i z
      · exact nxt_lt z)
    have hp : 0 < (nxt W G seen L).length := List.length_pos_iff.mpr hne
    rw [List.length_append] at this
    simp only [List.length_cons]
    omega
def leadW (W : List (List Int)) (G : List (Option Int)) : List (List Nat) → Nat → List Int
  | [], _ => []
  | L :: Ls, i => if L.contains i then (rowW W i).filter (fun x => if Ls.isEmpty then (holder G x).isNone else match holder G x with
    | some j => !(leadW W G Ls j).isEmpty
    | none => false) else []
def rowF (W : List (List Int)) (G : List (Option Int)) : List (List Nat) → Nat → List (Nat × Int)
  | [], _ => []
  | L :: Ls, i => match leadW W G (L :: Ls) i with
    | [] => []
    | x :: _ => (i, x) :: match holder G x with
      | some j => rowF W G Ls j
      | none => []

theorem Lays.total {W : List (List Int)} {G : List (Option Int)} (hl : G.length = W.length) {seen L : List Nat} {Ls : List (List Nat)} {fl : Bool} (h : Lays W G seen L Ls fl) : seen.Nodup → (∀ i, i ∈ seen → i < W.length) → Ls.flatten.length + seen.length ≤ W.length + L.length := by
  induction h with
  | free h => intro hn hs; have := few_lt hn hs; simp; omega
  | stop h _ => intro hn hs; have := few_lt hn hs; simp; omega
  | @step seen L N Ls fl h e hne hd ih =>
    intro hn hs
    subst e
    have := ih (List.nodup_append.mpr ⟨hn, nxt_sorted.imp fun h => by omega, fun a ha b hb e => by
      subst e
      obtain ⟨_, _, _, z⟩ := (mem_nxt hl).mp hb
      exact z ha⟩) (fun i hi => by
      rcases List.mem_append.mp hi with z | z
      · exact hs i z
      · exact nxt_lt z)
    rw [List.length_append] at this
    rw [List.flatten_cons, List.length_append]
    omega
theorem lead_cons {W : List (List Int)} {G : List (Option Int)} {L : List Nat} {Ls : List (List Nat)} {i : Nat} (h : i ∈ L) : leadW W G (L :: Ls) i = (rowW W i).filter (fun x => if Ls.isEmpty then (holder G x).isNone else match holder G x with
    | some j => !(leadW W G Ls j).isEmpty
    | none => false) := by
  rw [leadW, if_pos (by simpa using h)]
theorem lead_out {W : List (List Int)} {G : List (Option Int)} {L : List Nat} {Ls : List (List Nat)} {i : Nat} (h : i ∉ L) : leadW W G (L :: Ls) i = [] := by
  rw [leadW, if_neg (by simpa using h)]
theorem lead_mem {W : List (List Int)} {G : List (Option Int)} {L : List Nat} {Ls : List (List Nat)} {i : Nat} {x : Int} (h : x ∈ leadW W G (L :: Ls) i) : i ∈ L ∧ x ∈ rowW W i ∧ ((Ls = [] ∧ holder G x = none) ∨ (Ls ≠ [] ∧ ∃ j, holder G x = some j ∧ leadW W G Ls j ≠ [])) := by
  by_cases hi : i ∈ L
  · rw [lead_cons hi, List.mem_filter] at h
    refine ⟨hi, h.1, ?_⟩
    have h2 := h.2
    split at h2
    · rename_i e
      exact .inl ⟨by simpa using e, by simpa using h2⟩
    · rename_i e
      refine .inr ⟨by simpa using e, ?_⟩
      split at h2
      · rename_i j ej
        exact ⟨j, ej, by simpa using h2⟩
      · cases h2
  · rw [lead_out hi] at h; cases h
theorem Lays.way {W : List (List Int)} {G : List (Option Int)} (hl : G.length = W.length) (hi : gInj G) {seen L : List Nat} {Ls : List (List Nat)} {fl : Bool} (h : Lays W G seen L Ls fl) : fl = true → ∃ i, i ∈ L ∧ leadW W G Ls i ≠ [] := by
  induction h with
  | free h =>
    intro _
    obtain ⟨i, h1, h2⟩ := List.any_eq_true.mp h
    obtain ⟨x, h3, h4⟩ := List.any_eq_true.mp h2
    refine ⟨i, h1, fun z => ?_⟩
    rw [lead_cons h1] at z
    have := List.filter_eq_nil_iff.mp z x h3
    simp [h4] at this
  | stop _ _ => intro z; cases z
  | @step seen L N Ls fl h e hn hd ih =>
    intro z
    obtain ⟨j, h1, h2⟩ := ih z
    subst e
    obtain ⟨x, h3, h4, _⟩ := (mem_nxt hl).mp h1
    obtain ⟨i, h5, h6⟩ := List.any_eq_true.mp h4
    refine ⟨i, h5, fun z => ?_⟩
    obtain ⟨Ls', rfl⟩ := hd.head
    rw [lead_cons h5] at z
    have := List.filter_eq_nil_iff.mp z x (by simpa using h6)
    rw [holder_of hi h3] at this
    simp [h2] at this

abbrev natsL (S : List Nat) : D := .nd .lst (S.map fun k => .int (k : Nat))
abbrev layersD (Ls : List (List Nat)) : D := .nd .lst (Ls.map natsL)
def wayD (W : List (List Int)) (G : List (Option Int)) : List (List Nat) → D
  | [] => .nd (.dK []) []
  | L :: Ls => .nd (.dK (L.map natK)) (L.map fun i => intsD (leadW W G (L :: Ls) i))
abbrev rowD (r : List (Nat × Int)) : D := .nd .lst (r.map fun p => .nd .tup [.int (p.1 : Nat), .int p.2])
def holdS : SemF := fun args Q E => ∃ G : List (Option Int), args = [.fz (givenD G)] ∧ gInj G ∧ G.length ≤ 100 ∧ Q (.fz (heldD G)) []
def freeS : SemF := fun args Q E => ∃ (W : List (List Int)) (G : List (Option Int)) (L : List Nat), args = [.fz (wantsD W), .fz (heldD G), .fz (natsL L)] ∧ gInj G ∧ (∀ i, i ∈ L → i < W.length) ∧ Q (.fz (.bl (freeL W G L))) []
def layS : SemF := fun args Q E => ∃ (W : List (List Int)) (G : List (Option Int)) (a : Nat), args = [.fz (wantsD W), .fz (heldD G), .fz (.int (a : Nat))] ∧ gInj G ∧ G.length = W.length ∧ W.length ≤ 100 ∧ a < W.length ∧ ∀ Ls fl, Lays W G [a] [a] Ls fl → Q (.fz (layersD Ls)) []
def leadS : SemF := fun args Q E => ∃ (W : List (List Int)) (G : List (Option Int)) (Ls : List (List Nat)), args = [.fz (wantsD W), .fz (heldD G), .fz (layersD Ls)] ∧ gInj G ∧ (∀ M, M ∈ Ls → M.Nodup ∧ M.length ≤ 100 ∧ ∀ i, i ∈ M → i < W.length) ∧ Ls.length ≤ 100 ∧ (∀ k M, k + 1 < Ls.length → Ls[k]? = some M → freeL W G M = false) ∧
  Q (.fz (.nd .lst ((List.range Ls.length).map fun k => wayD W G (Ls.drop k)))) []
def lookS : SemF := fun args Q E => ∃ (W : List (List Int)) (G : List (Option Int)) (a : Nat), args = [.fz (wantsD W), .fz (givenD G), .fz (.int (a : Nat))] ∧ gInj G ∧ G.length = W.length ∧ W.length ≤ 100 ∧ a < W.length ∧
  ∀ Ls fl, Lays W G [a] [a] Ls fl → Q (.fz (.nd .tup [rowD (if fl then rowF W G Ls a else []), layersD Ls])) []
theorem nofree_at {W : List (List Int)} {G : List (Option Int)} {M : List Nat} {i : Nat} {x : Int} (h : freeL W G M = false) (hi : i ∈ M) (hx : x ∈ rowW W i) : ∃ j, holder G x = some j := by
  unfold freeL at h
  have h1 := List.any_eq_false.mp h i hi
  simp only [Bool.not_eq_true] at h1
  have h2 := List.any_eq_false.mp h1 x hx
  cases e : holder G x with
  | none => simp [e] at h2
  | some j => exact ⟨j, rfl⟩
theorem natK_inj {i j : Nat} (h : natK i = natK j) : i = j := by
  have := Sum.inl.inj h
  omega
theorem has_nat {i : Nat} : ∀ {fs : List Nat}, hasK (fs.map natK) (natK i) = decide (i ∈ fs)
  | [] => rfl
  | f :: fs => by
    have ih := has_nat (i := i) (fs := fs)
    unfold hasK at ih ⊢
    rw [List.map_cons, List.any_cons, ih]
    by_cases e : f = i
    · subst e; simp
    · have : natK f ≠ natK i := fun z => e (natK_inj z)
      simp [this]
      exact fun z => absurd z.symm e
theorem look_nat {i : Nat} {f : Nat → D} : ∀ {fs : List Nat}, look (fs.map natK) (fs.map f) (natK i) = if i ∈ fs then some (f i) else none
  | [] => rfl
  | j :: fs => by
    rw [List.map_cons, List.map_cons, look]
    by_cases e : j = i
    · subst e; rw [if_pos rfl, if_pos (by simp)]
    · rw [if_neg (fun z => e (natK_inj z)), look_nat (fs := fs)]
      by_cases h : i ∈ fs
      · rw [if_pos h, if_pos (by simp [h])]
      · rw [if_neg h, if_neg (by simp [h]; exact fun z => e z.symm)]
def tt : Nat → D := fun _ => .bl true
theorem put_tt {i : Nat} {fs : List Nat} : putKs (fs.map natK) (natK i) = (if i ∈ fs then fs else fs ++ [i]).map natK ∧ putVs (fs.map natK) (fs.map tt) (natK i) (.bl true) = (if i ∈ fs then fs else fs ++ [i]).map tt := by
  unfold putKs putVs
  rw [has_nat]
  by_cases h : i ∈ fs
  · simp only [h, decide_true, if_true, true_and]
    have : ∀ fs : List Nat, ((fs.map natK).zip (fs.map tt)).map (fun p => if p.1 = natK i then D.bl true else p.2) = fs.map tt := fun fs => by
      induction fs with
      | nil => rfl
      | cons a fs ih =>
        rw [List.map_cons, List.map_cons, List.zip_cons_cons, List.map_cons, ih]
        simp [tt]
    exact this fs
  · simp only [h, decide_false, Bool.false_eq_true, if_false, List.map_append]
    exact ⟨rfl, rfl⟩
theorem mrg_tt : ∀ {fs ss : List Nat}, fs.Nodup → (∀ i, i ∈ fs → i ∉ ss) → mrg (ss.map natK) (ss.map tt) (fs.map natK) (fs.map tt) = ((ss ++ fs).map natK, (ss ++ fs).map tt)
  | [], ss, _, _ => by simp [mrg]
  | f :: fs, ss, hn, h => by
    rw [List.map_cons, List.map_cons, mrg]
    have hf := h f (by simp)
    have e := put_tt (i := f) (fs := ss)
    rw [if_neg hf] at e
    show mrg (putKs (ss.map natK) (natK f)) (putVs (ss.map natK) (ss.map tt) (natK f) (.bl true)) (fs.map natK) (fs.map tt) = _
    rw [e.1, e.2, mrg_tt (fs := fs) (ss := ss ++ [f]) (List.nodup_cons.mp hn).2 fun i hi => by
      simp only [List.mem_append, List.mem_singleton]
      rintro (z | z)
      · exact h i (by simp [hi]) z
      · subst z; exact (List.nodup_cons.mp hn).1 hi]
    simp

theorem dget_tt {S : List Nat} {q : Nat} : dGet (.ow (.dK (S.map natK)) (S.map tt)) (.fz (.int (q : Nat))) = some (if q ∈ S then some (.bl true) else none) := by
  show some (look (S.map natK) (S.map tt) (natK q)) = _
  rw [look_nat]; rfl

theorem put_new {i : Nat} {v : D} {f : Nat → D} {fs : List Nat} (h : i ∉ fs) (hv : f i = v) : putKs (fs.map natK) (natK i) = (fs ++ [i]).map natK ∧ putVs (fs.map natK) (fs.map f) (natK i) v = (fs ++ [i]).map f := by
  unfold putKs putVs
  rw [has_nat]
  simp only [h, decide_false, Bool.false_eq_true, if_false, List.map_append, List.map_cons, List.map_nil, hv, and_self]
theorem dget_way {W : List (List Int)} {G : List (Option Int)} {L : List Nat} {Ls : List (List Nat)} {q : Nat} : dGet (.fz (wayD W G (L :: Ls))) (.fz (.int (q : Nat))) = some (if q ∈ L then some (intsD (leadW W G (L :: Ls) q)) else none) := by
  show some (look (L.map natK) (L.map fun i => intsD (leadW W G (L :: Ls) i)) (natK q)) = _
  rw [look_nat]
theorem drop_cons {α : Type} {l : List α} {k : Nat} {a : α} (h : l[k]? = some a) : l.drop k = a :: l.drop (k + 1) := by
  obtain ⟨h1, h2⟩ := List.getElem?_eq_some_iff.mp h
  rw [List.drop_eq_getElem_cons h1, h2]

theorem any_given {G : List (Option Int)} {v : Int} : ((G.map giD).any fun z => eqD z (.int v)) = (holder G v).isSome := by
  rw [Bool.eq_iff_iff, List.any_eq_true]
  constructor
  · rintro ⟨z, hz, e⟩
    obtain ⟨o, ho, rfl⟩ := List.mem_map.mp hz
    obtain ⟨i, hi⟩ := List.getElem?_of_mem ho
    cases o with
    | none => simp [giD, eqD] at e
    | some x =>
      simp [giD, eqD] at e
      subst e
      cases e2 : holder G x with
      | none => exact absurd hi (holder_none e2 i)
      | some j => rfl
  · intro h
    obtain ⟨i, hi⟩ := Option.isSome_iff_exists.mp h
    exact ⟨.int v, List.mem_map.mpr ⟨some v, List.mem_of_getElem? (holder_some hi), rfl⟩, by simp [eqD]⟩
theorem pl_wants {W : List (List Int)} : (wantsD W).pl 63 = true := pl_lst (n := 62) fun d hd => by
  obtain ⟨r, _, rfl⟩ := List.mem_map.mp hd
  refine pl_lst (n := 61) fun d hd => ?_
  obtain ⟨x, _, rfl⟩ := List.mem_map.mp hd
  rfl
theorem pl_given {G : List (Option Int)} : (givenD G).pl 63 = true := pl_lst (n := 62) fun d hd => by
  obtain ⟨o, _, rfl⟩ := List.mem_map.mp hd
  cases o <;> rfl

theorem fl_gi {o : Option Int} : flD (giD o) = true := by cases o <;> rfl
theorem and_fl {a b : Bool} (h : a = true) (g : b = true) : (a && b) = true := by rw [h, g]; rfl

theorem sz_nats {S : List Nat} : szDs (S.map fun k => D.int (k : Nat)) = 141 * S.length := by
  induction S with
  | nil => rfl
  | cons a S ih => rw [List.map_cons, szDs, ih, List.length_cons]; simp only [szD]; omega
theorem sz_layers : ∀ {Ls : List (List Nat)}, szD (layersD Ls) = 141 * Ls.flatten.length + Ls.length
  | [] => rfl
  | L :: Ls => by
    have ih : szDs (Ls.map natsL) = 141 * Ls.flatten.length + Ls.length := sz_layers (Ls := Ls)
    show szDs (natsL L :: Ls.map natsL) = _
    rw [szDs, ih, List.flatten_cons, List.length_append, List.length_cons]
    have : szD (natsL L) = 141 * L.length := sz_nats
    omega
theorem shrt_nats {S : List Nat} (h : ∀ i, i ∈ S → i < 1000) : shrt (natsL S) = true := shrts_all fun d hd => by
  obtain ⟨i, hi, rfl⟩ := List.mem_map.mp hd
  have := h i hi
  simp only [shrt, decide_eq_true_eq]; omega
theorem pl_row {r : List (Nat × Int)} : (rowD r).pl 64 = true := pl_lst (n := 63) fun d hd => by
  obtain ⟨p, _, rfl⟩ := List.mem_map.mp hd
  rfl
theorem fl_given {G : List (Option Int)} : (G.map giD).all flD = true := by
  rw [List.all_eq_true]; intro z hz; obtain ⟨o, _, rfl⟩ := List.mem_map.mp hz; exact fl_gi

theorem pl_ints {l : List Int} : (D.nd .lst (l.map D.int)).pl 64 = true := pl_lst (n := 63) fun d hd => by obtain ⟨i, _, rfl⟩ := List.mem_map.mp hd; rfl
theorem Lays.apart {W : List (List Int)} {G : List (Option Int)} (hl : G.length = W.length) {seen L : List Nat} {Ls : List (List Nat)} {fl : Bool} (h : Lays W G seen L Ls fl) : L.Nodup → (∀ i, i ∈ L → i ∈ seen) → Ls.flatten.Nodup ∧ ∀ i, i ∈ Ls.tail.flatten → i ∉ seen := by
  induction h with
  | free h => intro hn hs; simpa using hn
  | stop h _ => intro hn hs; simpa using hn
  | @step seen L N Ls fl h e hne hd ih =>
    intro hn hs
    subst e
    obtain ⟨Ls', rfl⟩ := hd.head
    obtain ⟨h1, h2⟩ := ih (nxt_sorted.imp fun h => by omega) fun i hi => List.mem_append_right _ hi
    have h3 : ∀ i, i ∈ (nxt W G seen L :: Ls').flatten → i ∉ seen := fun i hi => by
      rw [List.flatten_cons] at hi
      rcases List.mem_append.mp hi with z | z
      · obtain ⟨_, _, _, q⟩ := (mem_nxt hl).mp z
        exact q
      · exact fun q => h2 i (by simpa using z) (List.mem_append_left _ q)
    refine ⟨?_, by simpa using h3⟩
    rw [List.flatten_cons]
    exact List.nodup_append.mpr ⟨hn, h1, fun a ha b hb e => by subst e; exact h3 a hb (hs a ha)⟩
inductive Rowp (W : List (List Int)) (G : List (Option Int)) : Nat → List (Nat × Int) → Prop
  | last {i : Nat} {x : Int} : x ∈ rowW W i → holder G x = none → Rowp W G i [(i, x)]
  | more {i j : Nat} {x : Int} {r : List (Nat × Int)} : x ∈ rowW W i → holder G x = some j → Rowp W G j r → Rowp W G i ((i, x) :: r)
theorem row_walk {W : List (List Int)} {G : List (Option Int)} : ∀ {Ls : List (List Nat)} {i : Nat}, leadW W G Ls i ≠ [] → Rowp W G i (rowF W G Ls i) ∧ (rowF W G Ls i).length = Ls.length ∧ (∀ p, p ∈ rowF W G Ls i → p.1 ∈ Ls.flatten) ∧ (Ls.flatten.Nodup → ((rowF W G Ls i).map (·.1)).Nodup)
  | [], i, h => absurd rfl h
  | L :: Ls, i, h => by
    obtain ⟨x, l, e⟩ : ∃ x l, leadW W G (L :: Ls) i = x :: l := by
      cases e : leadW W G (L :: Ls) i with
      | nil => exact absurd e h
      | cons x l => exact ⟨x, l, rfl⟩
    obtain ⟨h1, h2, h3⟩ := lead_mem (W := W) (G := G) (L := L) (Ls := Ls) (i := i) (x := x) (by rw [e]; simp)
    rw [rowF, e]
    rcases h3 with ⟨rfl, h4⟩ | ⟨h4, j, h5, h6⟩
    · simp only [h4]
      exact ⟨.last h2 h4, rfl, fun p hp => by simp at hp; subst hp; simpa using h1, fun _ => by simp⟩
    · simp only [h5]
      obtain ⟨a1, a2, a3, a4⟩ := row_walk (Ls := Ls) (i := j) h6
      refine ⟨.more h2 h5 a1, by simp [a2], fun p hp => ?_, fun hn => ?_⟩
      · rcases List.mem_cons.mp hp with z | z
        · subst z; rw [List.flatten_cons]; exact List.mem_append_left _ h1
        · rw [List.flatten_cons]; exact List.mem_append_right _ (a3 p z)
      · rw [List.flatten_cons] at hn
        obtain ⟨_, n2, n3⟩ := List.nodup_append.mp hn
        rw [List.map_cons, List.nodup_cons]
        refine ⟨fun hm => ?_, a4 n2⟩
        obtain ⟨p, hp, e⟩ := List.mem_map.mp hm
        exact n3 i h1 i (by have := a3 p hp; rwa [e] at this) rfl
theorem Rowp.ne {W : List (List Int)} {G : List (Option Int)} {i : Nat} {r : List (Nat × Int)} (h : Rowp W G i r) : r ≠ [] := by cases h <;> simp
theorem Rowp.head {W : List (List Int)} {G : List (Option Int)} {i : Nat} {r : List (Nat × Int)} (h : Rowp W G i r) : ∃ x t, r = (i, x) :: t := by cases h <;> exact ⟨_, _, rfl⟩
theorem Rowp.want {W : List (List Int)} {G : List (Option Int)} {i : Nat} {r : List (Nat × Int)} (h : Rowp W G i r) : ∀ p, p ∈ r → p.2 ∈ rowW W p.1 := by
  induction h with
  | last h _ => intro p hp; simp at hp; subst hp; exact h
  | more h _ _ ih =>
    intro p hp
    rcases List.mem_cons.mp hp with z | z
    · subst z; exact h
    · exact ih p z
theorem Rowp.link {W : List (List Int)} {G : List (Option Int)} {i : Nat} {r : List (Nat × Int)} (h : Rowp W G i r) : ∀ (k : Nat) (p q : Nat × Int), r[k]? = some p → r[k + 1]? = some q → holder G p.2 = some q.1 := by
  induction h with
  | last _ _ => intro k p q h1 h2; simp at h2
  | @more i j x r h h2 h3 ih =>
    intro k p q e1 e2
    cases k with
    | zero =>
      obtain ⟨y, t, rfl⟩ := h3.head
      simp at e1 e2
      subst e1 e2
      exact h2
    | succ k => exact ih k p q (by simpa using e1) (by simpa using e2)
theorem Rowp.ends {W : List (List Int)} {G : List (Option Int)} {i : Nat} {r : List (Nat × Int)} (h : Rowp W G i r) : ∀ p, r.getLast? = some p → holder G p.2 = none := by
  induction h with
  | last _ h => intro p hp; simp at hp; subst hp; exact h
  | @more i j x r h h2 h3 ih =>
    intro p hp
    obtain ⟨y, t, rfl⟩ := h3.head
    exact ih p (by simpa [List.getLast?_cons_cons] using hp)
def turnF (G : List (Option Int)) (r : List (Nat × Int)) : List (Option Int) := r.foldl (fun g p => g.set p.1 (some p.2)) G
theorem turn_len {r : List (Nat × Int)} : ∀ {G : List (Option Int)}, (turnF G r).length = G.length := by
  induction r with
  | nil => intro G; rfl
  | cons p r ih => intro G; show (turnF (G.set p.1 (some p.2)) r).length = _; rw [ih, List.length_set]
theorem turn_out {r : List (Nat × Int)} {i : Nat} : ∀ {G : List (Option Int)}, (∀ p, p ∈ r → p.1 ≠ i) → (turnF G r)[i]? = G[i]? := by
  induction r with
  | nil => intro G _; rfl
  | cons p r ih =>
    intro G h
    show (turnF (G.set p.1 (some p.2)) r)[i]? = _
    rw [ih fun q hq => h q (by simp [hq]), List.getElem?_set_ne (h p (by simp))]
theorem turn_in {r : List (Nat × Int)} {i : Nat} {x : Int} : ∀ {G : List (Option Int)}, (r.map (·.1)).Nodup → (∀ p, p ∈ r → p.1 < G.length) → (i, x) ∈ r → (turnF G r)[i]? = some (some x) := by
  induction r with
  | nil => intro G _ _ h; cases h
  | cons p r ih =>
    intro G hn hl h
    show (turnF (G.set p.1 (some p.2)) r)[i]? = _
    rw [List.map_cons, List.nodup_cons] at hn
    rcases List.mem_cons.mp h with z | z
    · subst z
      rw [turn_out fun q hq e => hn.1 (List.mem_map.mpr ⟨q, hq, e⟩), List.getElem?_set_self (hl _ (by simp))]
    · exact ih hn.2 (fun q hq => by rw [List.length_set]; exact hl q (by simp [hq])) z
theorem Rowp.held {W : List (List Int)} {G : List (Option Int)} {i : Nat} {r : List (Nat × Int)} (h : Rowp W G i r) : ∀ p, p ∈ r → (r.getLast? = some p ∧ holder G p.2 = none) ∨ ∃ q, q ∈ r ∧ holder G p.2 = some q.1 := by
  intro p hp
  obtain ⟨k, hk⟩ := List.getElem?_of_mem hp
  rcases Nat.lt_or_ge (k + 1) r.length with z | z
  · exact .inr ⟨r[k + 1], List.getElem_mem _, h.link k p _ hk (List.getElem?_eq_getElem z)⟩
  · have hkl := (List.getElem?_eq_some_iff.mp hk).1
    have e : r.getLast? = some p := by rw [List.getLast?_eq_getElem?, show r.length - 1 = k by omega]; exact hk
    exact .inl ⟨e, h.ends p e⟩
theorem Rowp.rights {W : List (List Int)} {G : List (Option Int)} {i : Nat} {r : List (Nat × Int)} (h : Rowp W G i r) : (r.map (·.1)).Nodup → ∀ (p q : Nat × Int), p ∈ r → q ∈ r → p.2 = q.2 → p.1 = q.1 := by
  intro hn p q hp hq e
  obtain ⟨k, hk⟩ := List.getElem?_of_mem hp
  obtain ⟨m, hm⟩ := List.getElem?_of_mem hq
  have hkl := (List.getElem?_eq_some_iff.mp hk).1
  have hml := (List.getElem?_eq_some_iff.mp hm).1
  have last : ∀ {a : Nat} {p : Nat × Int}, r[a]? = some p → ¬ a + 1 < r.length → holder G p.2 = none := fun {a p} ha hz => by
    have hal := (List.getElem?_eq_some_iff.mp ha).1
    exact h.ends p (by rw [List.getLast?_eq_getElem?, show r.length - 1 = a by omega]; exact ha)
  by_cases z1 : k + 1 < r.length
  · have l1 := h.link k p _ hk (List.getElem?_eq_getElem z1)
    by_cases z2 : m + 1 < r.length
    · have l2 := h.link m q _ hm (List.getElem?_eq_getElem z2)
      rw [← e, l1] at l2
      have e2 := Option.some.inj l2
      have : k + 1 = m + 1 := by
        refine (List.getElem_inj (xs := r.map (·.1)) (h₀ := by simpa using z1) (h₁ := by simpa using z2) hn).mp ?_
        simpa using e2
      have : k = m := by omega
      subst this
      rw [hk] at hm
      cases hm; rfl
    · have := last hm z2
      rw [← e, l1] at this; cases this
  · have n1 := last hk z1
    by_cases z2 : m + 1 < r.length
    · have l2 := h.link m q _ hm (List.getElem?_eq_getElem z2)
      rw [← e, n1] at l2; cases l2
    · have : k = m := by omega
      subst this
      rw [hk] at hm
      cases hm; rfl
theorem turn_inj {W : List (List Int)} {G : List (Option Int)} {a : Nat} {r : List (Nat × Int)} (h : Rowp W G a r) (hi : gInj G) (hn : (r.map (·.1)).Nodup) (hl : ∀ p, p ∈ r → p.1 < G.length) : gInj (turnF G r) := by
  have cs : ∀ (i : Nat) (x : Int), (turnF G r)[i]? = some (some x) → (i, x) ∈ r ∨ ((∀ p, p ∈ r → p.1 ≠ i) ∧ G[i]? = some (some x)) := fun i x hx => by
    by_cases hm : ∃ p, p ∈ r ∧ p.1 = i
    · obtain ⟨p, hp, e⟩ := hm
      have := turn_in (i := i) (x := p.2) hn hl (by rw [← e]; exact hp)
      rw [hx] at this
      cases this
      exact .inl (by rw [← e]; exact hp)
    · have hno : ∀ p, p ∈ r → p.1 ≠ i := fun p hp e => hm ⟨p, hp, e⟩
      rw [turn_out hno] at hx
      exact .inr ⟨hno, hx⟩
  have mix : ∀ (i j : Nat) (x : Int), (i, x) ∈ r → (∀ p, p ∈ r → p.1 ≠ j) → G[j]? = some (some x) → False := fun i j x hr hno hj => by
    rcases h.held _ hr with ⟨_, e⟩ | ⟨q, hq, e⟩
    · exact holder_none e j hj
    · have := holder_of hi hj
      rw [e] at this
      exact hno q hq (Option.some.inj this)
  intro i j x h1 h2
  rcases cs i x h1 with a1 | ⟨a1, a2⟩
  · rcases cs j x h2 with b1 | ⟨b1, b2⟩
    · exact h.rights hn _ _ a1 b1 rfl
    · exact (mix i j x a1 b1 b2).elim
  · rcases cs j x h2 with b1 | ⟨b1, b2⟩
    · exact (mix j i x b1 a1 a2).elim
    · exact hi i j x a2 b2

theorem turn_case {G : List (Option Int)} {r : List (Nat × Int)} (hn : (r.map (·.1)).Nodup) (hl : ∀ p, p ∈ r → p.1 < G.length) {i : Nat} {x : Int} (hx : (turnF G r)[i]? = some (some x)) : (i, x) ∈ r ∨ ((∀ p, p ∈ r → p.1 ≠ i) ∧ G[i]? = some (some x)) := by
  by_cases hm : ∃ p, p ∈ r ∧ p.1 = i
  · obtain ⟨p, hp, e⟩ := hm
    have := turn_in (i := i) (x := p.2) hn hl (by rw [← e]; exact hp)
    rw [hx] at this
    cases this
    exact .inl (by rw [← e]; exact hp)
  · have hno : ∀ p, p ∈ r → p.1 ≠ i := fun p hp e => hm ⟨p, hp, e⟩
    rw [turn_out hno] at hx
    exact .inr ⟨hno, hx⟩
def rowOkp (W : List (List Int)) (G : List (Option Int)) (a : Nat) (r : List (Nat × Int)) : Prop := Rowp W G a r ∧ (r.map (·.1)).Nodup ∧ (∀ p, p ∈ r → p.1 < W.length) ∧ r.length ≤ 100
theorem row_get {W : List (List Int)} {i : Nat} (h : i < W.length) : W[i]? = some (rowW W i) := by
  rw [rowW, List.getD_eq_getElem?_getD, List.getElem?_eq_getElem h]; rfl
theorem turn_ok {W : List (List Int)} {G : List (Option Int)} {a : Nat} {r : List (Nat × Int)} (hG : givenOk W G) (hr : rowOkp W G a r) : givenOk W (turnF G r) := by
  obtain ⟨hl, hw, hi⟩ := hG
  obtain ⟨h1, h2, h3, _⟩ := hr
  have hlt : ∀ p, p ∈ r → p.1 < G.length := fun p hp => by rw [hl]; exact h3 p hp
  refine ⟨by rw [turn_len]; exact hl, fun k x hx => ?_, turn_inj h1 hi h2 hlt⟩
  rcases turn_case h2 hlt hx with z | ⟨_, z⟩
  · exact ⟨_, row_get (h3 _ z), h1.want _ z⟩
  · exact hw k x z
theorem shrt_given {W : List (List Int)} {G : List (Option Int)} (hW : wantsOk W) (hG : givenOk W G) : shrt (givenD G) = true := shrts_all fun d hd => by
  obtain ⟨o, ho, rfl⟩ := List.mem_map.mp hd
  cases o with
  | none => rfl
  | some x =>
    obtain ⟨k, hk⟩ := List.getElem?_of_mem ho
    obtain ⟨rw', hr, hx⟩ := hG.2.1 k x hk
    have := (hW.2 _ (List.mem_of_getElem? hr)).2.1 x hx
    simp only [giD, shrt, decide_eq_true_eq]; omega
theorem shw_given {W : List (List Int)} {G : List (Option Int)} (hW : wantsOk W) (hG : givenOk W G) : shwD (givenD G) := shw_of (shrt_given hW hG) (by
  have h1 : szDs (G.map giD) ≤ (G.map giD).length * (140 + 1) := szDs_le fun d hd => by
    obtain ⟨o, ho, rfl⟩ := List.mem_map.mp hd
    cases o <;> simp [giD, szD]
  have h2 := hG.1
  have h3 := hW.1.2
  rw [List.length_map] at h1
  show szDs (G.map giD) ≤ _
  omega)
def turnS : SemF := fun args Q E => ∃ (G : List (Option Int)) (r : List (Nat × Int)), args = [.fz (givenD G), .fz (rowD r)] ∧ G.length ≤ 100 ∧ (∀ p, p ∈ r → p.1 < G.length) ∧ Q (.ow .lst ((turnF G r).map giD)) []
def allR (W : List (List Int)) (S : List Nat) : List Int := S.flatMap fun k => W.getD k []
def moreV (W : List (List Int)) (S : List Nat) : Int := S.length - (dd (allR W S)).length
def lstOk (n : Nat) (S : List Nat) : Prop := S.Nodup ∧ (∀ k, k ∈ S → k < n) ∧ S.length ≤ 100
def wantsOk0 (W : List (List Int)) : Prop := W.length ≤ 100 ∧ ∀ r, r ∈ W → rowOk r
theorem wantsOk.ok0 {W : List (List Int)} (h : wantsOk W) : wantsOk0 W := ⟨h.1.2, h.2⟩
def moreS : SemF := fun args Q E => ∃ (W : List (List Int)) (S : List Nat), args = [.fz (wantsD W), .fz (natsL S)] ∧ wantsOk0 W ∧ lstOk W.length S ∧ Q (.fz (.int (moreV W S))) []
theorem getD_range (l : List Int) : (List.range l.length).map (fun i => l.getD i 0) = l := by
  apply List.ext_getElem
  · simp
  · intro i h1 h2
    simp at h1
    simp [List.getD_eq_getElem?_getD, h1]
theorem dd_eq (l : List Int) : dd l = l.foldl PyProof.Rows.step_dedup [] := by
  unfold dd PyProof.Rows.firstMet
  rw [getD_range]
theorem dd_snoc (l : List Int) (x : Int) : dd (l ++ [x]) = PyProof.Rows.step_dedup (dd l) x := by
  rw [dd_eq, dd_eq, List.foldl_append]; rfl
theorem dd_le (l : List Int) : (dd l).length ≤ l.length := PyProof.Rows.firstMet_length_le _ _
theorem dd_put (l : List Int) (x : Int) : putKs ((dd l).map Sum.inl) (.inl x) = (dd (l ++ [x])).map Sum.inl := by
  have e : hasK ((dd l).map Sum.inl) (.inl x) = (dd l).any (· == x) := by
    unfold hasK
    rw [List.any_map]
    congr 1
    funext y
    rw [Bool.eq_iff_iff]
    simp
  rw [dd_snoc]
  unfold putKs PyProof.Rows.step_dedup
  rw [e]
  split <;> simp
theorem allR_len {W : List (List Int)} (hW : wantsOk0 W) : ∀ S : List Nat, (allR W S).length ≤ 100 * S.length
  | [] => by simp [allR]
  | k :: S => by
    have h1 : (W.getD k []).length ≤ 100 := by
      rw [List.getD_eq_getElem?_getD]
      cases e : W[k]? with
      | none => simp
      | some r => exact (hW.2 r (List.mem_of_getElem? e)).2.2
    have := allR_len hW S
    simp only [allR, List.flatMap_cons, List.length_append, List.length_cons] at this ⊢
    omega
theorem allR_snoc {W : List (List Int)} {S : List Nat} {k : Nat} {r : List Int} (h : W[k]? = some r) : allR W (S ++ [k]) = allR W S ++ r := by
  simp [allR, List.getD_eq_getElem?_getD, h]

def rowG (W : List (List Int)) (G : List (Option Int)) (Ls : List (List Nat)) (fl : Bool) (a : Nat) : List (Nat × Int) := if fl then rowF W G Ls a else []
inductive FillN (W : List (List Int)) (G : List (Option Int)) : Nat → List (Option Int) → Prop
  | zero : FillN W G 0 G
  | skip {n : Nat} {G' : List (Option Int)} {x : Int} : FillN W G n G' → G'[n]? = some (some x) → FillN W G (n + 1) G'
  | fill {n : Nat} {G' : List (Option Int)} {Ls : List (List Nat)} {fl : Bool} : FillN W G n G' → G'[n]? = some none → Lays W G' [n] [n] Ls fl → FillN W G (n + 1) (turnF G' (rowG W G' Ls fl n))
theorem FillN.det {W : List (List Int)} {G : List (Option Int)} {n : Nat} {G1 : List (Option Int)} (h : FillN W G n G1) : ∀ {G2 : List (Option Int)}, FillN W G n G2 → G1 = G2 := by
  induction h with
  | zero => intro _ h2; cases h2; rfl
  | skip h e ih =>
    intro _ h2
    cases h2 with
    | skip a b => exact ih a
    | fill a b c => have := ih a; subst this; rw [e] at b; cases b
  | fill h e l ih =>
    intro _ h2
    cases h2 with
    | skip a b => have := ih a; subst this; rw [e] at b; cases b
    | fill a b c =>
      have := ih a
      subst this
      obtain ⟨e1, e2⟩ := l.det c
      rw [e1, e2]
structure Tight (W : List (List Int)) (G : List (Option Int)) (U : Nat → Prop) (a : Nat) : Prop where
  start : U a
  none : G[a]? = some none
  held : ∀ j, U j → j ≠ a → ∃ x, G[j]? = some (some x)
  close : ∀ i x, U i → x ∈ rowW W i → ∃ j, U j ∧ G[j]? = some (some x)
theorem Lays.heldL {W : List (List Int)} {G : List (Option Int)} (hl : G.length = W.length) {seen L : List Nat} {Ls : List (List Nat)} {fl : Bool} (h : Lays W G seen L Ls fl) : ∀ j, j ∈ Ls.tail.flatten → ∃ x, G[j]? = some (some x) := by
  induction h with
  | free _ => intro j hj; simp at hj
  | stop _ _ => intro j hj; simp at hj
  | @step seen L N Ls fl h e hn hd ih =>
    intro j hj
    subst e
    obtain ⟨Ls', rfl⟩ := hd.head
    rw [List.tail_cons, List.flatten_cons] at hj
    rcases List.mem_append.mp hj with z | z
    · obtain ⟨x, hx, _⟩ := (mem_nxt hl).mp z
      exact ⟨x, hx⟩
    · exact ih j (by simpa using z)
theorem Lays.shut {W : List (List Int)} {G : List (Option Int)} (hl : G.length = W.length) {seen L : List Nat} {Ls : List (List Nat)} {fl : Bool} (h : Lays W G seen L Ls fl) : fl = false → ∀ M, M ∈ Ls → ∀ i, i ∈ M → ∀ x, x ∈ rowW W i → ∃ j, (j ∈ seen ∨ j ∈ Ls.flatten) ∧ G[j]? = some (some x) := by
  have near : ∀ {seen L : List Nat} {i : Nat} {x : Int}, freeL W G L = false → i ∈ L → x ∈ rowW W i → ∃ j, (j ∈ seen ∨ j ∈ nxt W G seen L) ∧ G[j]? = some (some x) := fun {seen L i x} hf hi hx => by
    obtain ⟨j, hj⟩ := nofree_at hf hi hx
    have hg := holder_some hj
    by_cases hs : j ∈ seen
    · exact ⟨j, .inl hs, hg⟩
    · exact ⟨j, .inr ((mem_nxt hl).mpr ⟨x, hg, List.any_eq_true.mpr ⟨i, hi, by simpa using hx⟩, hs⟩), hg⟩
  induction h with
  | free _ => intro z; cases z
  | @stop seen L h e =>
    intro _ M hM i hi x hx
    simp at hM
    subst hM
    obtain ⟨j, hj, hg⟩ := near (seen := seen) h hi hx
    rw [e] at hj
    exact ⟨j, .inl (by simpa using hj), hg⟩
  | @step seen L N Ls fl h e hn hd ih =>
    intro hfl M hM i hi x hx
    subst e
    obtain ⟨Ls', rfl⟩ := hd.head
    rcases List.mem_cons.mp hM with z | z
    · subst z
      obtain ⟨j, hj, hg⟩ := near (seen := seen) h hi hx
      rcases hj with hj | hj
      · exact ⟨j, .inl hj, hg⟩
      · exact ⟨j, .inr (by simp [hj]), hg⟩
    · obtain ⟨j, hj, hg⟩ := ih hfl M z i hi x hx
      rcases hj with hj | hj
      · rcases List.mem_append.mp hj with q | q
        · exact ⟨j, .inl q, hg⟩
        · exact ⟨j, .inr (by simp [q]), hg⟩
      · refine ⟨j, .inr ?_, hg⟩
        rw [List.flatten_cons]
        exact List.mem_append_right _ hj
theorem Lays.tight {W : List (List Int)} {G : List (Option Int)} (hl : G.length = W.length) {a : Nat} (ha : G[a]? = some none) {Ls : List (List Nat)} (h : Lays W G [a] [a] Ls false) : Tight W G (fun i => i ∈ Ls.flatten) a := by
  obtain ⟨Ls', rfl⟩ := h.head
  refine ⟨by simp, ha, fun j hj hne => h.heldL hl j ?_, fun i x hi hx => ?_⟩
  · rw [List.flatten_cons] at hj
    rcases List.mem_append.mp hj with z | z
    · simp at z; exact absurd z hne
    · exact z
  · obtain ⟨M, hM, hi⟩ := List.mem_flatten.mp hi
    obtain ⟨j, hj, hg⟩ := h.shut hl rfl M hM i hi x hx
    refine ⟨j, ?_, hg⟩
    rcases hj with hj | hj
    · simp at hj; subst hj; simp
    · exact hj
theorem Tight.no_row {W : List (List Int)} {G : List (Option Int)} (hi : gInj G) {U : Nat → Prop} {a : Nat} (t : Tight W G U a) {i : Nat} {r : List (Nat × Int)} (h : Rowp W G i r) : ∀ p, p ∈ r → ¬ U p.1 := by
  induction h with
  | @last i x h1 h2 =>
    intro p hp hu
    simp at hp
    subst hp
    obtain ⟨j, _, hg⟩ := t.close i x hu h1
    exact holder_none h2 j hg
  | @more i j x r h1 h2 h3 ih =>
    intro p hp hu
    rcases List.mem_cons.mp hp with z | z
    · subst z
      obtain ⟨k, hk, hg⟩ := t.close i x hu h1
      rw [holder_of hi hg] at h2
      cases h2
      obtain ⟨y, tl, rfl⟩ := h3.head
      exact ih (j, y) (by simp) hk
    · exact ih p z hu
theorem Tight.keep {W : List (List Int)} {G G' : List (Option Int)} {U : Nat → Prop} {a : Nat} (t : Tight W G U a) (h : ∀ i, U i → G'[i]? = G[i]?) : Tight W G' U a :=
  ⟨t.start, by rw [h a t.start]; exact t.none, fun j hj hne => by rw [h j hj]; exact t.held j hj hne, fun i x hi hx => by
    obtain ⟨j, hj, hg⟩ := t.close i x hi hx
    exact ⟨j, hj, by rw [h j hj]; exact hg⟩⟩
theorem Tight.inside {W : List (List Int)} {G : List (Option Int)} (hl : G.length = W.length) (hi : gInj G) {U : Nat → Prop} {a : Nat} (t : Tight W G U a) {seen L : List Nat} {Ls : List (List Nat)} {fl : Bool} (h : Lays W G seen L Ls fl) : (∀ i, i ∈ L → U i) → fl = false ∧ ∀ i, i ∈ Ls.flatten → U i := by
  have nof : ∀ {L : List Nat}, (∀ i, i ∈ L → U i) → freeL W G L = false := fun {L} hu => by
    rw [Bool.eq_false_iff]
    intro hf
    obtain ⟨i, h1, h2⟩ := List.any_eq_true.mp hf
    obtain ⟨x, h3, h4⟩ := List.any_eq_true.mp h2
    obtain ⟨j, _, hg⟩ := t.close i x (hu i h1) h3
    rw [holder_of hi hg] at h4
    cases h4
  induction h with
  | free h => intro hu; rw [nof hu] at h; cases h
  | stop _ _ => intro hu; exact ⟨rfl, by simpa using hu⟩
  | @step seen L N Ls fl h e hn hd ih =>
    intro hu
    subst e
    obtain ⟨h1, h2⟩ := ih fun i hiN => by
      obtain ⟨x, hx, hw, _⟩ := (mem_nxt hl).mp hiN
      obtain ⟨i', h3, h4⟩ := List.any_eq_true.mp hw
      obtain ⟨j, hj, hg⟩ := t.close i' x (hu i' h3) (by simpa using h4)
      rw [hi _ _ _ hx hg]; exact hj
    refine ⟨h1, fun i hi' => ?_⟩
    rw [List.flatten_cons] at hi'
    rcases List.mem_append.mp hi' with z | z
    · exact hu i z
    · exact h2 i z
theorem row_okp {W : List (List Int)} {G : List (Option Int)} (hG : givenOk W G) (hW : W.length ≤ 100) {a : Nat} (ha : a < W.length) {Ls : List (List Nat)} (h : Lays W G [a] [a] Ls true) : rowOkp W G a (rowF W G Ls a) := by
  obtain ⟨i, hi, hw⟩ := h.way hG.1 hG.2.2 rfl
  have hi : i = a := by simpa using hi
  subst hi
  obtain ⟨r1, r2, r3, r4⟩ := row_walk hw
  have hfew := h.few hG.1 (by simp) (by simpa using ha)
  simp only [List.length_singleton] at hfew
  exact ⟨r1, r4 (h.apart hG.1 (by simp) (by simp)).1, fun p hp => by
    obtain ⟨M, hM, hp2⟩ := List.mem_flatten.mp (r3 p hp)
    exact (h.each (by simp) (by simpa using ha) M hM).2 _ hp2, by omega⟩
theorem turn_some {W : List (List Int)} {G : List (Option Int)} {a : Nat} {r : List (Nat × Int)} (hG : givenOk W G) (hr : rowOkp W G a r) {i : Nat} {x : Int} (h : G[i]? = some (some x)) : ∃ y, (turnF G r)[i]? = some (some y) := by
  obtain ⟨h1, h2, h3, _⟩ := hr
  by_cases hm : ∃ p, p ∈ r ∧ p.1 = i
  · obtain ⟨p, hp, e⟩ := hm
    exact ⟨p.2, turn_in h2 (fun p hp => by rw [hG.1]; exact h3 p hp) (by rw [← e]; exact hp)⟩
  · exact ⟨x, by rw [turn_out fun p hp e => hm ⟨p, hp, e⟩]; exact h⟩
theorem turn_start {W : List (List Int)} {G : List (Option Int)} {a : Nat} {r : List (Nat × Int)} (hG : givenOk W G) (hr : rowOkp W G a r) : ∃ y, (turnF G r)[a]? = some (some y) := by
  obtain ⟨h1, h2, h3, _⟩ := hr
  obtain ⟨x, t, e⟩ := h1.head
  exact ⟨x, turn_in h2 (fun p hp => by rw [hG.1]; exact h3 p hp) (by rw [e]; simp)⟩
structure FillOk (W : List (List Int)) (G : List (Option Int)) (n : Nat) (G' : List (Option Int)) : Prop where
  ok : givenOk W G'
  keep : ∀ (i : Nat) (x : Int), G[i]? = some (some x) → ∃ y : Int, G'[i]? = some (some y)
  shut : ∀ i : Nat, i < n → G'[i]? = some none → ∃ U, Tight W G' U i
  new : ∀ (i : Nat) (x : Int), n ≤ i → G'[i]? = some (some x) → ∃ y : Int, G[i]? = some (some y)
theorem FillN.ok {W : List (List Int)} {G : List (Option Int)} (hG : givenOk W G) (hW : W.length ≤ 100) {n : Nat} {G' : List (Option Int)} (h : FillN W G n G') : n ≤ W.length → FillOk W G n G' := by
  induction h with
  | zero => intro _; exact ⟨hG, fun i x h => ⟨x, h⟩, fun i hi => absurd hi (Nat.not_lt_zero i), fun i x _ h => ⟨x, h⟩⟩
  | @skip n G' x h e ih =>
    intro hn
    obtain ⟨a, b, c, d⟩ := ih (by omega)
    refine ⟨a, b, fun i hi' hz => ?_, fun i x hi' hx => d i x (by omega) hx⟩
    by_cases z : i = n
    · subst z; rw [e] at hz; cases hz
    · exact c i (by omega) hz
  | @fill n G' Ls fl h e l ih =>
    intro hn
    obtain ⟨a, b, c, d⟩ := ih (by omega)
    cases fl with
    | false =>
      show FillOk W G (n + 1) G'
      refine ⟨a, b, fun i hi' hz => ?_, fun i x hi' hx => d i x (by omega) hx⟩
      by_cases z : i = n
      · subst z; exact ⟨_, l.tight a.1 e⟩
      · exact c i (by omega) hz
    | true =>
      have hr := row_okp a hW (by omega) l
      have hin : ∀ p, p ∈ rowF W G' Ls n → ∀ (i : Nat), n + 1 ≤ i → p.1 = i → ∃ y, G'[i]? = some (some y) := fun p hp i hi' e' => by
        obtain ⟨j, hj, hw⟩ := l.way a.1 a.2.2 rfl
        have hj : j = n := by simpa using hj
        subst hj
        obtain ⟨_, _, r3, _⟩ := row_walk hw
        have hm := r3 p hp
        obtain ⟨Ls', rfl⟩ := l.head
        rw [List.flatten_cons] at hm
        rcases List.mem_append.mp hm with z | z
        · simp at z; omega
        · rw [← e']; exact l.heldL a.1 p.1 (by simpa using z)
      show FillOk W G (n + 1) (turnF G' (rowF W G' Ls n))
      refine ⟨turn_ok a hr, fun i x hx => ?_, fun i hi' hz => ?_, fun i x hi' hx => ?_⟩
      · obtain ⟨y, hy⟩ := b i x hx
        exact turn_some a hr hy
      · have hin : i ≠ n := fun z => by
          subst z
          obtain ⟨y, hy⟩ := turn_start a hr
          rw [hy] at hz; cases hz
        have hno : G'[i]? = some none := by
          cases eg : G'[i]? with
          | none =>
            have : (turnF G' (rowF W G' Ls n)).length = G'.length := turn_len
            have h1 := (List.getElem?_eq_some_iff.mp hz).1
            have h2 := List.getElem?_eq_none_iff.mp eg
            omega
          | some o =>
            cases o with
            | none => rfl
            | some y =>
              obtain ⟨y', hy'⟩ := turn_some a hr eg
              rw [hy'] at hz; cases hz
        obtain ⟨U, t⟩ := c i (by omega) hno
        refine ⟨U, t.keep fun j hj => turn_out fun p hp e' => ?_⟩
        subst e'
        exact t.no_row a.2.2 hr.1 p hp hj
      · rcases turn_case hr.2.1 (fun p hp => by rw [a.1]; exact hr.2.2.1 p hp) hx with z | ⟨_, z⟩
        · obtain ⟨y, hy⟩ := hin _ z i hi' rfl
          exact d i y (by omega) hy
        · exact d i x (by omega) z

theorem FillN.same {W : List (List Int)} {G : List (Option Int)} (hl : G.length = W.length) (hi : gInj G) {n : Nat} {G' : List (Option Int)} (h : FillN W G n G') : (∀ i : Nat, G[i]? = some none → ∃ U, Tight W G U i) → G' = G := by
  induction h with
  | zero => intro _; rfl
  | skip _ _ ih => exact ih
  | @fill n G' Ls fl h e l ih =>
    intro ht
    have := ih ht
    subst this
    obtain ⟨U, t⟩ := ht n e
    obtain ⟨z, _⟩ := t.inside hl hi l (by simpa using t.start)
    subst z
    rfl
theorem rev_get {α : Type} {l : List α} {i : Nat} (h : i < l.length) : l.reverse[i]? = l[l.length - 1 - i]? := List.getElem?_reverse h
theorem givenOk.rev {W : List (List Int)} {G : List (Option Int)} (h : givenOk W G) : givenOk W.reverse G.reverse := by
  obtain ⟨h1, h2, h3⟩ := h
  have lt : ∀ {i : Nat} {x : Option Int}, G.reverse[i]? = some x → i < G.length := fun {i x} hi => by
    have := (List.getElem?_eq_some_iff.mp hi).1
    rwa [List.length_reverse] at this
  refine ⟨by simp [h1], fun k x hk => ?_, fun i j x hi hj => ?_⟩
  · have hl := lt hk
    rw [rev_get hl] at hk
    obtain ⟨r, hr, hx⟩ := h2 _ x hk
    exact ⟨r, by rw [rev_get (by omega), ← h1]; exact hr, hx⟩
  · have li := lt hi
    have lj := lt hj
    rw [rev_get li] at hi
    rw [rev_get lj] at hj
    have := h3 _ _ x hi hj
    omega
theorem szI {i : Int} (h : i ≤ 16777216) : i ≤ ((sizeLine : Nat) : Int) := by rw [sizeLine_eq]; exact h
theorem szL {n : Nat} (h : n < 16777216) : n < sizeLine := by rw [sizeLine_eq]; exact h
def fillS : SemF := fun args Q E => ∃ (W : List (List Int)) (G : List (Option Int)), args = [.fz (wantsD W), .fz (givenD G)] ∧ givenOk W G ∧ W.length ≤ 100 ∧ ∀ G', FillN W G W.length G' → Q (.ow .lst (G'.map giD)) []
def drwS : SemF := fun args Q E => ∃ t, args = [t] ∧ IsBag t ∧ ∀ (W : List (List Int)) (G : List (Option Int)) t', wantsOk W → givenOk W G → IsBag t' → Q (.nd .tup [.fz (wantsD W), .ow .lst (G.map giD)]) [t']
def rndS : SemF := fun args Q E => ∃ (W : List (List Int)) (G : List (Option Int)) (a : Nat), args = [.fz (wantsD W), .fz (heldD G), .fz (.int (a : Nat))] ∧ gInj G ∧ G.length = W.length ∧ W.length ≤ 100 ∧ a < W.length ∧ ∀ Ls fl, Lays W G [a] [a] Ls fl → Q (.fz (.nd .tup [layersD Ls, .bl fl])) []
def gdL (W : List (List Int)) (G : List (Option Int)) : List (List Nat) → List Nat
  | [] => []
  | L :: Ls => L.filter fun i => !(leadW W G (L :: Ls) i).isEmpty
def gdD (W : List (List Int)) (G : List (Option Int)) (Ls : List (List Nat)) : D := .nd (.dK ((gdL W G Ls).map natK)) ((gdL W G Ls).map fun i => .int ((leadW W G Ls i).headD 0))
def nxP (W : List (List Int)) (G : List (Option Int)) (Ls : List (List Nat)) (x : Int) : Bool := if Ls.isEmpty then (holder G x).isNone else match holder G x with
  | some j => !(leadW W G Ls j).isEmpty
  | none => false
def lleadsS : SemF := fun args Q E => ∃ (W : List (List Int)) (G : List (Option Int)) (Ls : List (List Nat)) (x : Int), args = [.fz (heldD G), .fz (gdD W G Ls), .fz (.int x)] ∧ gInj G ∧ (Ls ≠ [] → gdL W G Ls ≠ []) ∧ Q (.fz (.bl (nxP W G Ls x))) []
def llookS : SemF := lookS
def dueS : SemF := fun args Q E => ∃ (W : List (List Int)) (G : List (Option Int)) (a : Nat) (i : Int), args = [.fz (.int i), .fz (wantsD W), .fz (givenD G), .fz (.int (a : Nat))] ∧ 0 ≤ i ∧ i < 4 ∧ wantsOk W ∧ givenOk W G ∧ a < W.length ∧
  (i = 0 → ∀ Ls fl, Lays W G [a] [a] Ls fl → Q (.fz (.nd .tup [rowD (rowG W G Ls fl a), layersD Ls])) []) ∧ (i = 1 → ∀ Ls fl, Lays W G [a] [a] Ls fl → Q (.fz (givenD (turnF G (rowG W G Ls fl a)))) []) ∧
  (i = 2 → ∀ Gf, FillN W G W.length Gf → Q (.fz (givenD Gf)) []) ∧ (i = 3 → Q (.fz (.int (moreV W (List.range W.length)))) [])
theorem lead_nx {W : List (List Int)} {G : List (Option Int)} {L : List Nat} {Ls : List (List Nat)} {i : Nat} (h : i ∈ L) : leadW W G (L :: Ls) i = (rowW W i).filter (nxP W G Ls) := lead_cons h
theorem mem_gd {W : List (List Int)} {G : List (Option Int)} {Ls : List (List Nat)} {i : Nat} : i ∈ gdL W G Ls ↔ leadW W G Ls i ≠ [] := by
  cases Ls with
  | nil => simp [gdL, leadW]
  | cons L Ls =>
    unfold gdL
    rw [List.mem_filter]
    constructor
    · rintro ⟨_, h⟩ e
      rw [e] at h
      cases h
    · intro h
      refine ⟨Decidable.byContradiction fun q => h (lead_out q), ?_⟩
      cases e : leadW W G (L :: Ls) i with
      | nil => exact absurd e h
      | cons _ _ => rfl
theorem dget_gd {W : List (List Int)} {G : List (Option Int)} {Ls : List (List Nat)} {q : Nat} : dGet (.fz (gdD W G Ls)) (.fz (.int (q : Nat))) = some (if q ∈ gdL W G Ls then some (.int ((leadW W G Ls q).headD 0)) else none) := by
  show some (look ((gdL W G Ls).map natK) ((gdL W G Ls).map fun i => D.int ((leadW W G Ls i).headD 0)) (natK q)) = _
  rw [look_nat]
theorem dget_gdm {W : List (List Int)} {G : List (Option Int)} {Ls : List (List Nat)} : dGet (.fz (gdD W G Ls)) (.fz (.int (-1))) = some none := by
  show some (look ((gdL W G Ls).map natK) ((gdL W G Ls).map fun i => D.int ((leadW W G Ls i).headD 0)) (Sum.inl (-1))) = _
  congr 1
  generalize gdL W G Ls = l
  induction l with
  | nil => rfl
  | cons a l ih =>
    rw [List.map_cons, List.map_cons, look]
    rw [if_neg (fun z => by have := Sum.inl.inj z; omega), ih]
theorem Lays.ways {W : List (List Int)} {G : List (Option Int)} (hl : G.length = W.length) (hi : gInj G) {seen L : List Nat} {Ls : List (List Nat)} {fl : Bool} (h : Lays W G seen L Ls fl) : fl = true → ∀ k, k < Ls.length → gdL W G (Ls.drop k) ≠ [] := by
  have top : ∀ {seen L : List Nat} {Ls : List (List Nat)} {fl : Bool}, Lays W G seen L Ls fl → fl = true → gdL W G Ls ≠ [] := fun {seen L Ls fl} h e => by
    obtain ⟨i, _, h1⟩ := h.way hl hi e
    intro q
    have := mem_gd.mpr h1
    rw [q] at this
    cases this
  induction h with
  | @free seen L h =>
    intro e k hk
    have : k = 0 := by simpa using hk
    subst this
    exact top (.free (seen := seen) h) rfl
  | stop _ _ => intro e; cases e
  | @step seen L N Ls fl h e hn hd ih =>
    intro e2 k hk
    cases k with
    | zero => exact top (.step h e hn hd) e2
    | succ k => exact ih e2 k (by simpa using hk)
theorem free_flat {W : List (List Int)} {G : List (Option Int)} {L : List Nat} : freeL W G L = (L.flatMap (rowW W)).any fun v => (holder G v).isNone := by
  unfold freeL
  rw [List.any_flatMap]
theorem enum_zip (G : List (Option Int)) : enumD (G.map giD) = G.zipIdx.map fun p => .nd .tup [.int (p.2 : Nat), giD p.1] := by
  unfold enumD
  apply List.ext_getElem
  · simp
  · intro i h1 h2
    simp
theorem pairs_hp : ∀ l : List (Option Int × Nat), ((l.filter fun p => p.1.isSome).map fun p => D.nd .tup [giD p.1, .int (p.2 : Nat)]) = (l.filterMap fun p => p.1.map fun x => (x, p.2)).map fun p => D.nd .tup [.int p.1, .int (p.2 : Nat)]
  | [] => rfl
  | (none, i) :: l => by
    rw [List.filter_cons_of_neg (by simp), List.filterMap_cons_none rfl]
    exact pairs_hp l
  | (some x, i) :: l => by
    have e : (((some x, i) :: l).filterMap fun p : Option Int × Nat => p.1.map fun x => (x, p.2)) = (x, i) :: l.filterMap fun p => p.1.map fun x => (x, p.2) := by simp
    rw [List.filter_cons_of_pos (by simp), e, List.map_cons, List.map_cons, pairs_hp l]
theorem pairsD_hp : ∀ ps : List (Int × Nat), pairsD (ps.map fun p => D.nd .tup [.int p.1, .int (p.2 : Nat)]) = some (ps.map fun p => Sum.inl p.1, ps.map fun p => .int (p.2 : Nat))
  | [] => rfl
  | p :: ps => by
    rw [List.map_cons, pairsD, pairsD_hp ps]; rfl
theorem mrg_new : ∀ (ps qs : List (Int × Nat)), ((qs ++ ps).map (·.1)).Nodup → mrg (qs.map fun p => (Sum.inl p.1 : Key)) (qs.map fun p => D.int (p.2 : Nat)) (ps.map fun p => Sum.inl p.1) (ps.map fun p => D.int (p.2 : Nat)) = ((qs ++ ps).map fun p => (Sum.inl p.1 : Key), (qs ++ ps).map fun p => D.int (p.2 : Nat))
  | [], qs, _ => by simp [mrg]
  | p :: ps, qs, h => by
    have hno : hasK (qs.map fun p => (Sum.inl p.1 : Key)) (.inl p.1) = false := by
      unfold hasK
      rw [List.any_map, List.any_eq_false]
      intro q hq
      simp only [Function.comp_apply, decide_eq_true_eq]
      intro e
      have e2 : q.1 = p.1 := Sum.inl.inj e
      rw [List.map_append] at h
      exact (List.nodup_append.mp h).2.2 q.1 (List.mem_map.mpr ⟨q, hq, rfl⟩) p.1 (by simp) e2
    rw [List.map_cons, List.map_cons, mrg]
    have e1 : putKs (qs.map fun p => (Sum.inl p.1 : Key)) (.inl p.1) = (qs ++ [p]).map fun p => (Sum.inl p.1 : Key) := by
      unfold putKs; rw [hno, List.map_append]; rfl
    have e2 : putVs (qs.map fun p => (Sum.inl p.1 : Key)) (qs.map fun p => D.int (p.2 : Nat)) (.inl p.1) (D.int (p.2 : Nat)) = (qs ++ [p]).map fun p => D.int (p.2 : Nat) := by
      unfold putVs; rw [hno, List.map_append]; rfl
    rw [e1, e2, mrg_new ps (qs ++ [p]) (by rw [List.append_assoc]; exact h), List.append_assoc]
    rfl
theorem hp_nodup {G : List (Option Int)} (hi : gInj G) : ((hpairs G).map (·.1)).Nodup := by
  have hn : (hpairs G).Nodup := by
    unfold hpairs
    refine List.Pairwise.filterMap (R := fun a b => a.2 ≠ b.2) _ (fun a b h p hp q hq e => ?_) ?_
    · obtain ⟨x, _, rfl⟩ := Option.map_eq_some_iff.mp hp
      obtain ⟨y, _, rfl⟩ := Option.map_eq_some_iff.mp hq
      exact h (Prod.mk.inj e).2
    · rw [List.pairwise_iff_getElem]
      intro i j h1 h2 h3
      simp
      omega
  refine List.pairwise_map.mpr (hn.imp_of_mem fun {p q} hp hq h e => h ?_)
  have h1 := mem_hpairs.mp hp
  have h2 := mem_hpairs.mp hq
  rw [e] at h1
  exact Prod.ext e (hi _ _ _ h1 h2)
theorem held_mrg {G : List (Option Int)} (hi : gInj G) : mrg [] ([] : List D) (hK G) (hV G) = (hK G, hV G) := mrg_new (hpairs G) [] (hp_nodup hi)
def empL (G : List (Option Int)) : List Nat := (List.range G.length).filter fun k => decide (G[k]? = some none)
theorem mem_emp {G : List (Option Int)} {k : Nat} : k ∈ empL G ↔ G[k]? = some none := by
  unfold empL
  rw [List.mem_filter, List.mem_range, decide_eq_true_eq]
  exact ⟨fun h => h.2, fun h => ⟨(List.getElem?_eq_some_iff.mp h).1, h⟩⟩
theorem given_none {W : List (List Int)} {G : List (Option Int)} {k : Nat} (h : givenOk W G) : givenOk W (G.set k none) := by
  have key : ∀ (i : Nat) (x : Int), (G.set k none)[i]? = some (some x) → G[i]? = some (some x) := fun i x hx => by
    by_cases e : i = k
    · subst e
      by_cases hk : i < G.length
      · rw [List.getElem?_set_self hk] at hx; cases hx
      · rw [List.getElem?_eq_none (by rw [List.length_set]; omega)] at hx; cases hx
    · rwa [List.getElem?_set_ne (fun z => e z.symm)] at hx
  exact ⟨by rw [List.length_set]; exact h.1, fun i x hx => h.2.1 i x (key i x hx), fun i j x hi hj => h.2.2 i j x (key i x hi) (key j x hj)⟩
theorem moreV_bd {W : List (List Int)} (hW : wantsOk W) : -20000 ≤ moreV W (List.range W.length) ∧ moreV W (List.range W.length) ≤ 100 := by
  unfold moreV
  have h1 := dd_le (allR W (List.range W.length))
  have h2 := allR_len hW.ok0 (List.range W.length)
  have h3 := hW.1.2
  rw [List.length_range] at h2 ⊢
  have h4 : 100 * W.length ≤ 10000 := by omega
  omega
theorem rowG_ok {W : List (List Int)} {G : List (Option Int)} (hW : wantsOk W) (hG : givenOk W G) {a : Nat} (ha : a < W.length) {Ls : List (List Nat)} {fl : Bool} (hd : Lays W G [a] [a] Ls fl) : (∀ p, p ∈ rowG W G Ls fl a → p.1 < W.length ∧ 0 ≤ p.2 ∧ p.2 < 200) ∧ (rowG W G Ls fl a).length ≤ 100 ∧ givenOk W (turnF G (rowG W G Ls fl a)) := by
  cases fl with
  | false => exact ⟨fun p hp => (nomatch hp), by simp [rowG], hG⟩
  | true =>
    have hr := row_okp hG hW.1.2 ha hd
    have hok := turn_ok hG hr
    obtain ⟨h1, h2, h3, h4⟩ := hr
    refine ⟨fun p hp => ⟨h3 p hp, ?_⟩, ?_, hok⟩
    · have hm := h1.want p hp
      have hk := h3 p hp
      have hr2 := row_get (W := W) hk
      exact (hW.2 _ (List.mem_of_getElem? hr2)).2.1 _ hm
    · have h5 : ((rowF W G Ls a).map (·.1)).length ≤ W.length := few_lt h2 fun i hi => by
        obtain ⟨p, hp, rfl⟩ := List.mem_map.mp hi
        exact h3 p hp
      rw [List.length_map] at h5
      exact Nat.le_trans h5 hW.1.2
theorem al_look {W : List (List Int)} {G : List (Option Int)} (hW : wantsOk W) (hG : givenOk W G) {a : Nat} (ha : a < W.length) {Ls : List (List Nat)} {fl : Bool} (hd : Lays W G [a] [a] Ls fl) : (D.nd .tup [rowD (rowG W G Ls fl a), layersD Ls]).pl 64 = true ∧ shwD (.nd .tup [rowD (rowG W G Ls fl a), layersD Ls]) := by
  obtain ⟨h1, h2, _⟩ := rowG_ok hW hG ha hd
  have hW100 := hW.1.2
  have hfew := hd.few hG.1 (by simp) (by simpa using ha)
  have htot := hd.total hG.1 (by simp) (by simpa using ha)
  have heach := hd.each (by simp) (by simpa using ha)
  simp only [List.length_singleton] at hfew htot
  generalize rowG W G Ls fl a = r at *
  have p1 : (rowD r).pl 63 = true := pl_lst (n := 62) fun d hd => by
    obtain ⟨p, _, rfl⟩ := List.mem_map.mp hd
    rfl
  have p2 : (layersD Ls).pl 63 = true := pl_lst (n := 62) fun d hd => by
    obtain ⟨r, _, rfl⟩ := List.mem_map.mp hd
    refine pl_lst (n := 61) fun d hd => ?_
    obtain ⟨x, _, rfl⟩ := List.mem_map.mp hd
    rfl
  have s1 : shrt (rowD r) = true := shrts_all fun d hd => by
    obtain ⟨p, hp, rfl⟩ := List.mem_map.mp hd
    obtain ⟨q1, q2, q3⟩ := h1 p hp
    refine shrts_all fun d hd => ?_
    simp at hd
    rcases hd with rfl | rfl
    · simp only [shrt, decide_eq_true_eq]; omega
    · simp only [shrt, decide_eq_true_eq]; omega
  have s2 : shrt (layersD Ls) = true := shrts_all fun d hd => by
    obtain ⟨M, hM, rfl⟩ := List.mem_map.mp hd
    exact shrt_nats fun i hi => by have := (heach M hM).2 i hi; omega
  have z1 : szD (rowD r) ≤ 100 * 300 := Nat.le_trans (szDs_le (k := 299) fun d hd => by
    obtain ⟨p, _, rfl⟩ := List.mem_map.mp hd
    simp [szD, szDs]) (by rw [List.length_map]; exact Nat.mul_le_mul_right _ h2)
  have z2 : szD (layersD Ls) ≤ 141 * 100 + 100 := by rw [sz_layers]; omega
  refine ⟨by rw [D.pl]; simp [Dspl, p1, p2], shw_of (shrts_all fun d hd => ?_) ?_⟩
  · simp at hd
    rcases hd with rfl | rfl
    · exact s1
    · exact s2
  · show szDs [rowD r, layersD Ls] ≤ _
    simp only [szDs]
    omega
theorem al_given {W : List (List Int)} {G : List (Option Int)} (hW : wantsOk W) (hG : givenOk W G) : (givenD G).pl 64 = true ∧ shwD (givenD G) := ⟨pl_lst (n := 63) fun d hd => by
  obtain ⟨o, _, rfl⟩ := List.mem_map.mp hd
  cases o <;> rfl, shw_given hW hG⟩
theorem al_int {i : Int} (h : -20000 ≤ i ∧ i ≤ 100) : (D.int i).pl 64 = true ∧ shwD (.int i) := ⟨rfl, shw_of (by simp only [shrt, decide_eq_true_eq]; omega) (by simp [szD])⟩
theorem rngF {f : Int} {n : Nat} : rngD f n = ((List.range n).map fun i => f + ((i : Nat) : Int)).map D.int := by
  simp [rngD, List.map_map, Function.comp_def]
theorem run_ok {f : Int} {n : Nat} (h0 : 0 ≤ f) (h1 : f + n ≤ 100) : rowOk ((List.range n).map fun i => f + ((i : Nat) : Int)) := by
  refine ⟨?_, fun x hx => ?_, by simp; omega⟩
  · rw [List.pairwise_map]
    exact List.pairwise_lt_range.imp fun h => by omega
  · obtain ⟨i, hi, rfl⟩ := List.mem_map.mp hx
    have := List.mem_range.mp hi
    omega
theorem rowOk.sub {r s : List Int} (h : rowOk r) (hs : s.Sublist r) : rowOk s := ⟨h.1.sublist hs, fun x hx => h.2.1 x (hs.subset hx), Nat.le_trans hs.length_le h.2.2⟩
theorem erase_map : ∀ (r : List Int) (k : Nat), (r.map D.int).eraseIdx k = (r.eraseIdx k).map D.int
  | [], _ => rfl
  | _ :: _, 0 => rfl
  | a :: r, k + 1 => by rw [List.map_cons, List.eraseIdx_cons_succ, List.eraseIdx_cons_succ, List.map_cons, erase_map r k]

section
variable {P : Program} {w : World} {K : PySem.W.Frag} {mg : Str → Option Value} {base : Heap} {ca : Str → Addr}
def bagT (a b c : Int) (ns : List Int) : T := .ow .lst [.int a, .int b, .int c, .nd .lst (ns.map .int)]
theorem ok_take (Df : DefAt K mg "_law_take" s_take ["_law_bag_here", "_law_many"]) (B : Bt mg) : Callee P w K mg base 1 "_law_take" ["_law_bag_here", "_law_many"] [0] takeS := by
  refine callee_of Df sc_take (by decide) (by decide) fun f cdv A outer s H EX W hr hG tk hp => ?_
  refine ⟨_, (ss_cons (s_if (t_eq (hu65 hr) ((q_ixA (hu65 hr) (p_nm 0) (q_int).p)).p (q_int).p) (ss_cons (s_set 2 q_int sc_take.nd)
      (ss_cons (s_if (t_lt ((q_ixA (hu65 hr) (p_nm 0) (q_int).p)).p ((q_b1 c_lenB g_lenB (by rfl) B.len bt_len ((q_ixA (hu65 hr) (p_nm 0) (q_int).p)).p)).p) (ss_one (s_set 2 (q_ixA (hu65 hr) ((q_ixA (hu65 hr) (p_nm 0) (q_int).p)).p ((q_ixA (hu65 hr) (p_nm 0) (q_int).p)).p) sc_take.nd)) ss_nil).cut
      (ss_cons (s_augS 0 ip_add q_int q_int)
      (ss_cons (s_if (t_ge (p_nm 2) (q_int).p) (ss_one (s_store 0 (p_nm 2).val q_int)) ss_nil).cut
      (ss_one (s_store 0 (q_mod ((q_add ((q_add ((q_mul ((q_ixA (hu65 hr) (p_nm 0) (q_int).p)).p (q_int).p)).p ((q_mod (p_nm 2) (q_int).p)).p)).p ((q_mul (q_int).p ((q_ixA (hu65 hr) (p_nm 0) (q_int).p)).p)).p)).p (q_int).p) q_int)))))) ss_nil).cut
      (ss_cons (s_if (t_gt ((q_ixA (hu65 hr) (p_nm 0) (q_int).p)).p (q_int).p) (ss_cons (s_set 3 (q_mod ((q_ixA (hu65 hr) (p_nm 0) (q_int).p)).p (p_nm 1)) sc_take.nd)
      (ss_cons (s_store 0 (q_fdiv ((q_ixA (hu65 hr) (p_nm 0) (q_int).p)).p (p_nm 1)) q_int)
      (ss_one (s_ret (p_nm 3).val)))) ss_nil)
      (ss_cons (s_set 4 (q_mod ((q_mul ((q_add ((q_ixA (hu65 hr) (p_nm 0) (q_int).p)).p (q_int).p)).p (q_int).p)).p (q_int).p) sc_take.nd)
      (ss_cons (s_set 5 (q_mod ((q_mul ((q_mod ((q_mul (p_nm 4) (p_nm 4))).p (q_int).p)).p (q_int).p)).p (q_int).p) sc_take.nd)
      (ss_cons (s_if (t_gt (p_nm 1) (q_int).p) (ss_one (s_ret (q_mod ((q_add ((q_mul (p_nm 5) (q_int).p)).p (p_nm 4))).p (p_nm 1)))) ss_nil)
      (ss_one (s_ret (q_mod ((q_fdiv (p_nm 5) (q_int).p)).p (p_nm 1))))))))), fun args Q E hl h => ?_⟩
  clear hl hr hG tk hp W EX H s outer A cdv f Df B
  obtain ⟨t, n, rfl, ⟨a, b, c, ns, rfl, ha, hb, hb2, hc, hns⟩, hn, hn2, h⟩ := h
  walk_at "vs"
  refine .mk ⟨fun e => ∃ a b c : Int, ∃ ns x, e = [some (bagT a b c ns), some (.fz (.int n)), x, none, none, none] ∧ 0 ≤ a ∧ 0 ≤ b ∧ b < 2147483647 ∧ 0 ≤ c ∧ ∀ x, x ∈ ns → 0 ≤ x, ?_, ?_⟩
  · walk_at "vs"
    refine ⟨fun h1 => ?_, fun h1 => ?_⟩
    · refine .mk ⟨fun e => ∃ x : Int, e = [some (bagT a b c ns), some (.fz (.int n)), some (.fz (.int x)), none, none, none] ∧ 0 ≤ x, ?_, ?_⟩
      · walk_at "vs"
        refine ⟨fun h2 => ?_, fun h2 => ?_⟩
        · walk_at "vs"
          simp at h2
          obtain ⟨d, e, m⟩ := at_lt (ds := ns.map D.int) hc (by simpa using h2)
          obtain ⟨x, mx, rfl⟩ := List.mem_map.mp m
          exact ⟨_, e, x, rfl, hns x mx⟩
        · exact ⟨0, rfl, by omega⟩
      · rintro e ⟨x, rfl, hx⟩
        walk_at "vs"
        refine ⟨show 2 < 4 by decide, rfl, ?_⟩
        refine .mk ⟨fun e => ∃ a : Int, e = [some (bagT a b (c + 1) ns), some (.fz (.int n)), some (.fz (.int x)), none, none, none] ∧ 0 ≤ a, ?_, ?_⟩
        · refine ⟨fun h2 => ?_, fun h2 => ?_⟩
          · walk_at "vs"
            exact hx
          · exact ⟨a, rfl, ha⟩
        · rintro e ⟨a, rfl, ha⟩
          walk_at "vs"
          exact ⟨a, _, c + 1, ns, _, rfl, ha, Int.emod_nonneg _ (by decide), Int.emod_lt_of_pos _ (by decide), by omega, hns⟩
    · exact ⟨a, b, c, ns, _, rfl, ha, hb, hb2, hc, hns⟩
  · rintro e ⟨a, b, c, ns, x, rfl, ha, hb, hb2, hc, hns⟩
    walk_at "vs"
    refine ⟨fun h1 => ?_, fun h1 => ?_⟩
    · walk_at "vs"
      exact h _ _ (Int.emod_nonneg _ (by omega)) (Int.emod_lt_of_pos _ (by omega)) ⟨a / n, b, c, ns, rfl, Int.ediv_nonneg ha (by omega), hb, hb2, hc, hns⟩
    · walk_at "vs"
      refine ⟨fun h2 => ?_, fun h2 => ?_⟩
      · walk_at "vs"
        exact h _ _ (Int.emod_nonneg _ (by omega)) (Int.emod_lt_of_pos _ (by omega)) ⟨a, b, c, ns, rfl, ha, hb, hb2, hc, hns⟩
      · walk_at "vs"
        exact h _ _ (Int.emod_nonneg _ (by omega)) (Int.emod_lt_of_pos _ (by omega)) ⟨a, b, c, ns, rfl, ha, hb, hb2, hc, hns⟩
theorem ok_bag (Df : DefAt K mg "_law_bag" s_bag ["_law_script"]) (B : Bt mg) : Callee P w K mg base 1 "_law_bag" ["_law_script"] [] bagS := by
  refine callee_of Df sc_bag (by decide) (by decide) fun f cdv A outer s H EX W hr hG tk hp => ?_
  refine ⟨_, (ss_one (s_ret (q_lst (a_cons q_int (a_cons q_int (a_cons q_int (a_cons ((q_lc (own := [("_law_cell", 1)]) rfl sc_bag.nd (i_list ((q_slice (p_nm 0) o_none (o_some q_int))).fz) (blkOk_by (by rfl)) (fun _ _ _ _ _ => (g_name 1 sc_bag.nd)) (fun _ _ _ _ _ => ts_nil) (fun _ _ _ _ _ => (q_b1 call_abs g_abs (by rfl) B.abs bt_abs (p_nm 1))))).fz a_nil))))))), fun args Q E hl h => ?_⟩
  clear hl hr hG tk hp W EX H s outer A cdv f Df B
  obtain ⟨ns, rfl, hn, h⟩ := h
  refine ⟨?_, ?_⟩
  · exact Nat.le_trans hn (by decide)
  refine .mk ⟨fun j acc e => ∃ xs : List Int, acc = xs.map .int ∧ e = [some (.fz (.scr ns)), none] ∧ ∀ x, x ∈ xs → 0 ≤ x, ⟨[], rfl, rfl, by simp⟩, ?_, ?_⟩
  · rintro j d acc e hd ⟨xs, rfl, rfl, hx⟩
    obtain ⟨x, _, rfl⟩ := List.mem_map.mp (List.mem_of_getElem? hd)
    refine ⟨fun _ => ?_, fun z => nomatch z⟩
    exact ⟨xs ++ [if x < 0 then -x else x], by simp, rfl, fun y hy => by
      rcases List.mem_append.mp hy with q | q
      · exact hx y q
      · simp at q; subst q; split <;> omega⟩
  · rintro acc e ⟨xs, rfl, rfl, hx⟩
    exact h _ ⟨0, 1234567891, 0, xs, rfl, by decide, by decide, by decide, by decide, hx⟩
theorem ok_alike (Df : DefAt K mg "_law_alike" s_alike ["_law_found", "_law_due_here"]) (B : Bt mg) : Callee P w K mg base 1 "_law_alike" ["_law_found", "_law_due_here"] [] alikeS := by
  refine callee_of Df sc_alike (by decide) (by decide) fun f cdv A outer s H EX W hr hG tk hp => ?_
  refine ⟨_, (ss_one (s_ret (q_and (q_eq (hu65 hr) (p_nm 0) (p_nm 1)) (q_one (q_eq (hu65 hr) ((q_b1 (c_repr hG (hu66 hr)) g_repr (by rfl) B.repr bt_repr (p_nm 0))).p ((q_b1 (c_repr hG (hu66 hr)) g_repr (by rfl) B.repr bt_repr (p_nm 1))).p))))), fun args Q E hl h => ?_⟩
  clear hl hr hG tk hp W EX H s outer A cdv f Df B
  obtain ⟨d, rfl, hp, hs, h⟩ := h
  refine ⟨.inr ⟨hp, hp⟩, fun h1 => ?_, fun h1 => ?_⟩
  · refine ⟨hp, hs, hp, hs, .inl rfl, ?_⟩
    have e : eqD (.str d.py.shown) (.str d.py.shown) = true := by simp [eqD]
    show Q (.fz (.bl (eqD (.str d.py.shown) (.str d.py.shown)))) []
    rw [e]
    exact h
  · simp [T.d, eqD_self 64 d hp] at h1

abbrev natsD (ks : List Nat) : List D := ks.map fun k => .int (k : Nat)
theorem pl_nats (ks : List Nat) : (D.nd .lst (natsD ks)).pl 64 = true := pl_lst (by simp [natsD, D.pl])
theorem ok_mixed (Df : DefAt K mg "_law_mixed" s_mixed ["_law_bag_here", "_law_many"]) (B : Bt mg) (C_take : Callee P w K mg base 1 "_law_take" ["_law_bag_here", "_law_many"] [0] takeS) : Callee P w K mg base 2 "_law_mixed" ["_law_bag_here", "_law_many"] [0] mixedS := by
  refine callee_of Df sc_mixed (by decide) (by decide) fun f cdv A outer s H EX W hr hG tk hp => ?_
  refine ⟨_, (ss_cons (s_set 2 (q_lrng rfl (by rfl) B.list (by rfl) B.range (p_nm 1).val) sc_mixed.nd)
      (ss_cons (s_set 3 (q_lst a_nil) sc_mixed.nd)
      (ss_cons (s_while hp (t_ne (hu65 hr) (p_nm 2) ((q_lst a_nil)).p) (ss_one (s_expr (q_append 3 (a_cons (q_popAt 2 (a_cons (q_callC C_take tk (hr.mono (by decide)) hG (by rfl) (a_own 0 (a_cons (q_b1 c_lenB g_lenB (by rfl) B.len bt_len (p_nm 2)) a_nil)) [0]) a_nil)) a_nil)))))
      (ss_one (s_ret (q_mvn 3)))))), fun args Q E hl h => ?_⟩
  clear hl hr hG tk hp W EX H s outer A cdv f Df B C_take
  obtain ⟨t, n, rfl, hb, hn, h⟩ := h
  refine ⟨by omega, by omega, ?_⟩
  refine .fr [0, 2, 3] (fun m vs => ∃ t, ∃ pool found : List Nat, vs = [some t, some (.ow .lst (natsD pool)), some (.ow .lst (natsD found))] ∧ IsBag t ∧ m = pool.length ∧ (found ++ pool).Perm (List.range n)) ⟨n, [_, _, _], rfl, t, List.range n, [], ?_, hb, by simp, by simp⟩ ?_
  · simp [rngD, natsD]
  rintro m vs ⟨t, pool, found, rfl, hb, rfl, hp⟩
  have hl := hp.length_eq
  simp at hl
  refine ⟨.inr ⟨pl_nats pool, rfl⟩, fun z => ?_, fun z => ?_⟩
  · have hne : 0 < pool.length := by
      rcases Nat.eq_zero_or_pos pool.length with e | e
      · rw [List.eq_nil_of_length_eq_zero e] at z; simp [T.d, eq_nil, natsD] at z
      · exact e
    refine ⟨rfl, rfl, ?_⟩
    refine ⟨_, _, rfl, hb, by simp; omega, by simp; omega, fun v t1 v0 v1 hb1 => ?_⟩
    simp at v1
    have hv : v.toNat < pool.length := by omega
    refine ⟨v0, .int (pool[v.toNat] : Nat), by simp [hv], ?_⟩
    refine ⟨by rw [List.length_map]; exact Nat.lt_of_le_of_lt (show found.length ≤ 100 by omega) (by decide), ?_⟩
    refine ⟨(pool.eraseIdx v.toNat).length, ?_, [_, _, _], rfl, t1, pool.eraseIdx v.toNat, found ++ [pool[v.toNat]], ?_, hb1, rfl, ?_⟩
    · rw [List.length_eraseIdx_of_lt hv]; omega
    · rw [natsD, natsD, natsD, natsD, map_erase, List.map_append]; rfl
    · refine List.Perm.trans ?_ hp
      rw [List.append_assoc]
      exact List.Perm.append_left _ (perm_eraseIdx pool _ hv)
  · have e : pool = [] := by simp [T.d, eq_nil, natsD] at z; exact z
    subst e
    exact h found t (by simpa using hp) hb

theorem ok_holders_of (Df : DefAt K mg "holders_of" s_holders_of ["given"]) (B : Bt mg) : Callee P w K mg base 1 "holders_of" ["given"] [] holdS := by
  refine callee_of Df sc_holders_of (by decide) (by decide) fun f cdv A outer s H EX W hr hG tk hp => ?_
  refine ⟨_, (ss_cons (s_set 1 q_dict0 sc_holders_of.nd)
      (ss_cons (s_for hp rfl (i_enum (by rfl) B.enumerate (p_nm 0).val) (g_tup (n := 2) rfl (gs_cons (g_name 2 sc_holders_of.nd) (gs_cons (g_name 3 sc_holders_of.nd) gs_nil))) (ss_one (s_if (t_notN (p_nm 3) (q_non).p) (ss_one (s_dput 1 (hu65 hr) (p_nm 2).val (p_nm 3).val)) ss_nil)))
      (ss_one (s_ret (q_fzn 1))))), fun args Q E hl h => ?_⟩
  clear hl hr hG tk hp W EX H s outer A cdv f Df B
  obtain ⟨G, rfl, hi, hl, h⟩ := h
  walk_at "nf"
  refine .fr [1, 2, 3] (fun j vs => ∃ x y, vs = [some (.ow (.dK (hK (G.take j))) (hV (G.take j))), x, y]) ⟨[_, _, _], rfl, _, _, rfl⟩ ?_ ?_
  · rintro j d vs hd ⟨x, y, rfl⟩
    obtain ⟨e, he, rfl⟩ := enumD_get hd
    rw [List.getElem?_map] at he
    obtain ⟨o, ho, rfl⟩ := Option.map_eq_some_iff.mp he
    have hj : j < G.length := (List.getElem?_eq_some_iff.mp ho).1
    have hsn : hpairs (G.take (j + 1)) = hpairs (G.take j) ++ hadd o j := by
      rw [List.take_succ, ho, Option.toList_some, hpairs_snoc, List.length_take, Nat.min_eq_left (by omega)]
    have hpl := hpairs_len (G.take j)
    rw [List.length_take] at hpl
    walk_at "nf"
    cases o with
    | none => 
      refine ⟨rfl, fun z => (nomatch z), fun _ => ?_⟩
      have e1 : hK (G.take (j + 1)) = hK (G.take j) := by unfold hK; rw [hsn, hadd, List.append_nil]
      have e2 : hV (G.take (j + 1)) = hV (G.take j) := by unfold hV; rw [hsn, hadd, List.append_nil]
      exact ⟨[_, _, _], rfl, some (.fz (.int (j : Nat))), some (.fz .non), by rw [e1, e2]; try exact rfl⟩
    | some x =>
      have hno : hasK (hK (G.take j)) (.inl x) = false := by
        unfold hasK hK
        rw [List.any_map, List.any_eq_false]
        intro p hp
        have h1 := mem_hpairs.mp hp
        have hlt : p.2 < j := by
          have := (List.getElem?_eq_some_iff.mp h1).1
          rw [List.length_take] at this; omega
        rw [List.getElem?_take, if_pos hlt] at h1
        simp only [Function.comp_apply, decide_eq_true_eq]
        intro e
        have e2 : p.1 = x := Sum.inl.inj e
        rw [e2] at h1
        have := hi _ _ _ h1 ho
        omega
      refine ⟨rfl, fun _ => ⟨rfl, ?_, ?_⟩, fun z => (nomatch z)⟩
      · unfold hK; rw [List.length_map]
        exact Nat.lt_of_le_of_lt (show _ ≤ 100 by omega) (by decide)
      · refine ⟨[_, _, _], rfl, some (.fz (.int (j : Nat))), some (.fz (.int x)), ?_⟩
        have e1 : putKs (hK (G.take j)) (.inl x) = hK (G.take (j + 1)) := by
          unfold putKs; rw [hno]; unfold hK; rw [hsn, List.map_append]; rfl
        have e2 : putVs (hK (G.take j)) (hV (G.take j)) (.inl x) (D.int (j : Nat)) = hV (G.take (j + 1)) := by
          unfold putVs; rw [hno]; unfold hV; rw [hsn, List.map_append]; rfl
        rw [← e1, ← e2]; try exact rfl
  · rintro vs ⟨x, y, rfl⟩
    rw [enumD_len, List.length_map, List.take_length]
    walk_at "nf"
    exact h
theorem ok_has_free_right (Df : DefAt K mg "has_free_right" s_has_free_right ["wants", "held", "layer"]) : Callee P w K mg base 1 "has_free_right" ["wants", "held", "layer"] [] freeS := by
  refine callee_of Df sc_has_free_right (by decide) (by decide) fun f cdv A outer s H EX W hr hG tk hp => ?_
  refine ⟨_, (ss_cons (s_for hp rfl (i_list (p_nm 2).val) (g_name 3 sc_has_free_right.nd) (ss_one (s_for hp rfl (i_list (q_ixA (hu65 hr) (p_nm 0) (p_nm 3))) (g_name 4 sc_has_free_right.nd) (ss_one (s_if (t_niA (hu65 hr) (p_nm 4) (p_nm 1)) (ss_one (s_ret q_bl)) ss_nil)))))
      (ss_one (s_ret q_bl))), fun args Q E hl h => ?_⟩
  clear hl hr hG tk hp W EX H s outer A cdv f Df
  obtain ⟨W, G, L, rfl, hi, hL, h⟩ := h
  walk_at "nf"
  refine .over L (fun i => .int (i : Nat)) rfl [3, 4] (fun j vs => (∃ x y, vs = [x, y]) ∧ freeL W G (L.take j) = false) ⟨[_, _], rfl, ⟨_, _, rfl⟩, by simp [freeL]⟩ ?_ ?_
  · rintro j i vs hj ⟨⟨x, y, rfl⟩, hf⟩
    have hiW := hL i (List.mem_of_getElem? hj)
    have hr : W[i]? = some W[i] := List.getElem?_eq_getElem hiW
    have hrw : rowW W i = W[i] := by rw [rowW, List.getD_eq_getElem?_getD, hr]; rfl
    walk_at "nf"
    refine ⟨intsD W[i], at_of (by rw [List.getElem?_map, hr]; rfl), ?_⟩
    refine .over W[i] D.int rfl [4] (fun k vs => (∃ y, vs = [y]) ∧ ∀ x, x ∈ W[i].take k → (holder G x).isNone = false) ⟨[_], rfl, ⟨_, rfl⟩, by simp⟩ ?_ ?_
    · rintro k x vs hk ⟨⟨y, rfl⟩, hx⟩
      walk_at "nf"
      refine ⟨_, dget_held hi, fun z => ?_, fun z => ?_⟩
      · have hn : (holder G x).isNone = true := by
          cases e : holder G x <;> simp [e] at z ⊢
        walk_at "nf"
        have hfl : freeL W G L = true := List.any_eq_true.mpr ⟨i, List.mem_of_getElem? hj, List.any_eq_true.mpr ⟨x, by rw [hrw]; exact List.mem_of_getElem? hk, hn⟩⟩
        rw [hfl] at h
        exact h
      · have hn : (holder G x).isNone = false := by
          cases e : holder G x <;> simp [e] at z ⊢
        exact ⟨[_], rfl, ⟨_, rfl⟩, fun x' hx' => by
          rw [List.take_succ, hk, Option.toList_some] at hx'
          rcases List.mem_append.mp hx' with q | q
          · exact hx x' q
          · simp at q; subst q; exact hn⟩
    · rintro vs ⟨⟨y, rfl⟩, hx⟩
      rw [List.take_length] at hx
      refine ⟨[_, _], rfl, ⟨_, _, rfl⟩, ?_⟩
      rw [List.take_succ, hj, Option.toList_some]
      unfold freeL at hf ⊢
      rw [List.any_append, hf, Bool.false_or, List.any_cons, List.any_nil, Bool.or_false, hrw, List.any_eq_false]
      exact fun x h => by rw [hx x h]; simp
  · rintro vs ⟨⟨x, y, rfl⟩, hf⟩
    rw [List.take_length] at hf
    walk_at "nf"
    rw [hf] at h
    exact h
theorem ok_layers_from (Df : DefAt K mg "layers_from" s_layers_from ["wants", "held", "at"]) (B : Bt mg) (C_has_free_right : Callee P w K mg base 1 "has_free_right" ["wants", "held", "layer"] [] freeS) : Callee P w K mg base 2 "layers_from" ["wants", "held", "at"] [] layS := by
  refine callee_of Df sc_layers_from (by decide) (by decide) fun f cdv A outer s H EX W hr hG tk hp => ?_
  refine ⟨_, (ss_cons (s_set 3 (q_lst a_nil) sc_layers_from.nd)
      (ss_cons (s_set 4 ((q_lst (a_cons (p_nm 2).val a_nil))).fz sc_layers_from.nd)
      (ss_cons (s_set 5 (q_dis (pr_cons (p_nm 2).val q_bl pr_nil)) sc_layers_from.nd)
      (ss_cons (s_while hp (t_ne (hu65 hr) (p_nm 4) ((q_lst a_nil)).p) (ss_cons (s_expr (q_append 3 (a_cons (p_nm 4).val a_nil)))
      (ss_cons (s_if (t_val (q_callC C_has_free_right tk (hr.mono (by decide)) hG (by rfl) (a_cons (p_nm 0).val (a_cons (p_nm 1).val (a_cons (p_nm 4).val a_nil))) [])) (ss_one (s_ret (q_fzn 3))) ss_nil)
      (ss_cons (s_set 6 q_dict0 sc_layers_from.nd)
      (ss_cons (s_for hp rfl (i_list (p_nm 4).val) (g_name 7 sc_layers_from.nd) (ss_one (s_for hp rfl (i_list (q_ixA (hu65 hr) (p_nm 0) (p_nm 7))) (g_name 8 sc_layers_from.nd) (ss_one (s_if (t_niA (hu65 hr) ((q_ixA (hu65 hr) (p_nm 1) (p_nm 8))).p (p_nm 5)) (ss_one (s_dput 6 (hu65 hr) q_bl (q_ixA (hu65 hr) (p_nm 1) (p_nm 8)))) ss_nil)))))
      (ss_cons (s_expr (q_dupd 5 (a_cons (q_fzn 6) a_nil)))
      (ss_one (s_set 4 ((q_sortD rfl (by rfl) B.sorted (p_nm 6))).fz sc_layers_from.nd))))))))
      (ss_one (s_ret (q_fzn 3))))))), fun args Q E hl h => ?_⟩
  clear hl hr hG tk hp W EX H s outer A cdv f Df B C_has_free_right
  obtain ⟨W, G, a, rfl, hi, hl, hW, ha, h⟩ := h
  walk_at "nf"
  refine ⟨⟨_, rfl⟩, ⟨by simp, show (1 : Nat) ≤ 15 by decide⟩, ?_⟩
  refine .fr [3, 4, 5, 6, 7, 8] (fun m vs => ∃ (acc : List (List Nat)) (L S : List Nat) (x y z : Option T), vs = [some (.ow .lst (acc.map natsL)), some (.fz (natsL L)), some (.ow (.dK (S.map natK)) (S.map tt)), x, y, z] ∧ (acc.length ≤ S.length ∧ (L ≠ [] → acc.length < S.length)) ∧ S.Nodup ∧ (∀ i, i ∈ S → i < W.length) ∧
    ((L = [] ∧ Lays W G [a] [a] acc false) ∨ (L ≠ [] ∧ m + S.length = W.length + 1 ∧ L.Nodup ∧ (∀ i, i ∈ L → i < W.length) ∧ ∀ Ls fl, Lays W G S L Ls fl → Lays W G [a] [a] (acc ++ Ls) fl))) ⟨W.length, [_, _, _, _, _, _], rfl, [], [a], [a], _, _, _, rfl, ⟨by simp, by simp⟩, by simp, by simpa using ha, .inr ⟨by simp, rfl, by simp, by simpa using ha, fun Ls fl hd => hd⟩⟩ ?_
  rintro m vs ⟨acc, L, S, x, y, z, rfl, hacc, hSn, hSl, hor⟩
  walk_at "nf"
  have hSlen := few_lt hSn hSl
  refine ⟨.inr ⟨pl_lst (n := 63) fun d hd => by obtain ⟨i, _, rfl⟩ := List.mem_map.mp hd; rfl, rfl⟩, fun c => ?_, fun c => ?_⟩
  · have hne : L ≠ [] := fun e => by subst e; simp [T.d, eq_nil] at c
    have hacc2 := hacc.2 hne
    rcases hor with ⟨z, _⟩ | ⟨_, hm, hLn, hLl, hd⟩
    · exact absurd z hne
    refine ⟨rfl, by rw [List.length_map]; exact Nat.lt_of_le_of_lt (show acc.length ≤ 100 by omega) (by decide), ?_⟩
    walk_at "nf"
    refine ⟨W, G, L, rfl, hi, hLl, ?_⟩
    refine ⟨fun hf => ?_, fun hf => ?_⟩
    · have := h (acc ++ [L]) true (hd [L] true (.free hf))
      rw [layersD, List.map_append] at this
      exact this
    have hrow : ∀ i, i ∈ L → ∃ r, W[i]? = some r ∧ rowW W i = r := fun i hi' => ⟨W[i]'(hLl i hi'), List.getElem?_eq_getElem _, by rw [rowW, List.getD_eq_getElem?_getD, List.getElem?_eq_getElem (hLl i hi')]; rfl⟩
    walk_at "nf"
    refine .over L (fun i => .int (i : Nat)) rfl [6, 7, 8] (fun j vs => ∃ (fs : List Nat) (x y : Option T), vs = [some (.ow (.dK (fs.map natK)) (fs.map tt)), x, y] ∧ fs.Nodup ∧ ∀ i, i ∈ fs ↔ i ∉ S ∧ ∃ v, v ∈ (L.take j).flatMap (rowW W) ∧ holder G v = some i) ⟨[_, _, _], rfl, [], _, _, rfl, by simp, by simp⟩ ?_ ?_
    · rintro j i vs hj ⟨fs, x, y, rfl, hfn, hfm⟩
      obtain ⟨r, hr, hrw⟩ := hrow i (List.mem_of_getElem? hj)
      walk_at "nf"
      refine ⟨intsD r, at_of (by rw [List.getElem?_map, hr]; rfl), ?_⟩
      refine .over r D.int rfl [6, 8] (fun k vs => ∃ (fs : List Nat) (y : Option T), vs = [some (.ow (.dK (fs.map natK)) (fs.map tt)), y] ∧ fs.Nodup ∧ ∀ i, i ∈ fs ↔ i ∉ S ∧ ∃ v, v ∈ (L.take j).flatMap (rowW W) ++ r.take k ∧ holder G v = some i) ⟨[_, _], rfl, fs, _, rfl, hfn, by simpa using hfm⟩ ?_ ?_
      · rintro k v vs hk ⟨fs, y, rfl, hfn, hfm⟩
        obtain ⟨q, hq⟩ := nofree_at hf (List.mem_of_getElem? hj) (by rw [hrw]; exact List.mem_of_getElem? hk)
        walk_at "nf"
        refine ⟨_, by rw [dget_held hi, hq]; rfl, ?_⟩
        have eall : ∀ i, (∃ u, u ∈ (L.take j).flatMap (rowW W) ++ r.take (k + 1) ∧ holder G u = some i) ↔ (∃ u, u ∈ (L.take j).flatMap (rowW W) ++ r.take k ∧ holder G u = some i) ∨ i = q := fun i => by
          rw [List.take_succ, hk, Option.toList_some, ← List.append_assoc]
          constructor
          · rintro ⟨u, hu, e⟩
            rcases List.mem_append.mp hu with hu | hu
            · exact .inl ⟨u, hu, e⟩
            · simp at hu; subst hu; rw [hq] at e; exact .inr (Option.some.inj e).symm
          · rintro (⟨u, hu, e⟩ | rfl)
            · exact ⟨u, List.mem_append_left _ hu, e⟩
            · exact ⟨v, by simp, hq⟩
        refine ⟨_, dget_tt, fun z => ?_, fun z => ?_⟩
        · have hqS : q ∉ S := fun e => by simp [e] at z
          refine ⟨rfl, _, by rw [dget_held hi, hq]; rfl, ?_⟩
          have hfl : fs.length ≤ W.length := few_lt hfn fun i hi' => by
            obtain ⟨_, u, _, e⟩ := (hfm i).mp hi'
            have := holder_lt e; omega
          refine ⟨by rw [List.length_map]; exact Nat.lt_of_le_of_lt (show fs.length ≤ 100 by omega) (by decide), ?_⟩
          have e1 := put_tt (i := q) (fs := fs)
          refine ⟨[_, _], rfl, if q ∈ fs then fs else fs ++ [q], some (.fz (.int v)), ?_, ?_, fun i => ?_⟩
          · rw [← e1.1, ← e1.2]; exact rfl
          · split
            · exact hfn
            · rename_i hno
              exact List.nodup_append.mpr ⟨hfn, by simp, fun a ha b hb e => by simp at hb; subst hb; subst e; exact hno ha⟩
          · rw [eall i]
            split
            · rename_i hyes
              rw [hfm i]
              constructor
              · rintro ⟨h1, h2⟩; exact ⟨h1, .inl h2⟩
              · rintro ⟨h1, h2 | rfl⟩
                · exact ⟨h1, h2⟩
                · exact (hfm i).mp hyes
            · rw [List.mem_append, hfm i, List.mem_singleton]
              constructor
              · rintro (⟨h1, h2⟩ | rfl)
                · exact ⟨h1, .inl h2⟩
                · exact ⟨hqS, .inr rfl⟩
              · rintro ⟨h1, h2 | rfl⟩
                · exact .inl ⟨h1, h2⟩
                · exact .inr rfl
        · have hqS : q ∈ S := Decidable.byContradiction fun e => by simp [e] at z
          refine ⟨[_, _], rfl, fs, some (.fz (.int v)), rfl, hfn, fun i => ?_⟩
          rw [eall i, hfm i]
          constructor
          · rintro ⟨h1, h2⟩; exact ⟨h1, .inl h2⟩
          · rintro ⟨h1, h2 | rfl⟩
            · exact ⟨h1, h2⟩
            · exact absurd hqS h1
      · rintro vs ⟨fs, y, rfl, hfn, hfm⟩
        rw [List.take_length] at hfm
        exact ⟨[_, _, _], rfl, fs, _, _, rfl, hfn, by rw [List.take_succ, hj, Option.toList_some, List.flatMap_append, List.flatMap_singleton, hrw]; exact hfm⟩
    · rintro vs ⟨fs, x, y, rfl, hfn, hfm⟩
      rw [List.take_length] at hfm
      have hfmN : ∀ i, i ∈ fs ↔ i ∈ nxt W G S L := fun i => by
        rw [hfm i, mem_nxt hl]
        constructor
        · rintro ⟨h1, v, hv, e⟩
          obtain ⟨i', hi', hv'⟩ := List.mem_flatMap.mp hv
          exact ⟨v, holder_some e, List.any_eq_true.mpr ⟨i', hi', by simpa using hv'⟩, h1⟩
        · rintro ⟨v, h1, h2, h3⟩
          obtain ⟨i', hi', hv'⟩ := List.any_eq_true.mp h2
          exact ⟨h3, v, List.mem_flatMap.mpr ⟨i', hi', by simpa using hv'⟩, holder_of hi h1⟩
      have hfl : ∀ i, i ∈ fs → i < W.length := fun i h => nxt_lt ((hfmN i).mp h)
      have hfd : ∀ i, i ∈ fs → i ∉ S := fun i h => ((hfm i).mp h).1
      have hfL := few_lt hfn hfl
      have hSfn : (S ++ fs).Nodup := List.nodup_append.mpr ⟨hSn, hfn, fun a ha b hb e => by subst e; exact hfd a hb ha⟩
      have hSfl : ∀ i, i ∈ S ++ fs → i < W.length := fun i hi' => by
        rcases List.mem_append.mp hi' with z | z
        · exact hSl i z
        · exact hfl i z
      have hSfL := few_lt hSfn hSfl
      walk_at "nf"
      refine ⟨rfl, ?_⟩
      refine ⟨by rw [List.length_map, List.length_map]; exact Nat.le_trans (show S.length + fs.length ≤ 200 by omega) (by decide), ?_⟩
      have em : mrg (S.map natK) (S.map tt) (fs.map natK) (fs.map tt) = ((S ++ fs).map natK, (S ++ fs).map tt) := mrg_tt hfn hfd
      refine ⟨fs.map fun i => ((i : Nat) : Int), fs.map tt, by rw [List.map_map]; rfl, fun ms hp hs => ?_⟩
      have hms : ms = (nxt W G S L).map fun i => ((i : Nat) : Int) := by
        refine sorted_eq (r := (· < ·)) (fun a h => by omega) (fun a b h => by omega) ?_ ?_ fun a => ?_
        · have hmn : ms.Nodup := hp.nodup_iff.mpr (List.pairwise_map.mpr (hfn.imp fun h e => h (by omega)))
          exact (hs.and hmn).imp fun h => by omega
        · exact List.pairwise_map.mpr (nxt_sorted.imp fun h => by omega)
        · rw [hp.mem_iff, List.mem_map, List.mem_map]
          exact ⟨fun ⟨i, h1, h2⟩ => ⟨i, (hfmN i).mp h1, h2⟩, fun ⟨i, h1, h2⟩ => ⟨i, (hfmN i).mpr h1, h2⟩⟩
      have hL5 : (natsL (nxt W G S L)) = .nd .lst (ms.map D.int) := by rw [hms, List.map_map]; rfl
      by_cases hN : nxt W G S L = []
      · refine ⟨0, by omega, [_, _, _, _, _, _], rfl, acc ++ [L], nxt W G S L, S ++ fs, some (.fz (.nd (.dK (fs.map natK)) (fs.map tt))), x, y, ?_, ⟨by simp; omega, fun z => absurd hN z⟩, hSfn, hSfl, .inl ⟨hN, hd [L] false (.stop hf hN)⟩⟩
        rw [hL5, List.map_append (f := natsL)]
        have e1 : (mrg (S.map natK) (S.map tt) (fs.map natK) (fs.map tt)).1 = (S ++ fs).map natK := by rw [em]
        have e2 : (mrg (S.map natK) (S.map tt) (fs.map natK) (fs.map tt)).2 = (S ++ fs).map tt := by rw [em]
        rw [← e1, ← e2]; exact rfl
      · have hNpos : 0 < (nxt W G S L).length := List.length_pos_iff.mpr hN
        have hfpos : 0 < fs.length := by
          obtain ⟨i, hi'⟩ := List.exists_mem_of_length_pos hNpos
          exact List.length_pos_of_mem ((hfmN i).mpr hi')
        rw [List.length_append] at hSfL
        refine ⟨m - fs.length, by omega, [_, _, _, _, _, _], rfl, acc ++ [L], nxt W G S L, S ++ fs, some (.fz (.nd (.dK (fs.map natK)) (fs.map tt))), x, y, ?_, ⟨by simp; omega, fun _ => by simp; omega⟩, hSfn, hSfl, .inr ⟨hN, by rw [List.length_append]; omega, nxt_sorted.imp fun h => by omega, fun i h => nxt_lt h, fun Ls fl hd2 => ?_⟩⟩
        · rw [hL5, List.map_append (f := natsL)]
          have e1 : (mrg (S.map natK) (S.map tt) (fs.map natK) (fs.map tt)).1 = (S ++ fs).map natK := by rw [em]
          have e2 : (mrg (S.map natK) (S.map tt) (fs.map natK) (fs.map tt)).2 = (S ++ fs).map tt := by rw [em]
          rw [← e1, ← e2]; exact rfl
        · rw [List.append_assoc]
          exact hd _ _ (.step hf rfl hN (hd2.congr fun i => by simp [hfmN i]))
  · have hne : L = [] := by
      cases L with
      | nil => rfl
      | cons a L => simp [T.d, eqD, eqDs] at c
    rcases hor with ⟨_, hd⟩ | ⟨z, _⟩
    · exact h _ _ hd
    · exact absurd hne z
theorem ok_leading_rights (Df : DefAt K mg "leading_rights" s_leading_rights ["wants", "held", "layers"]) (B : Bt mg) : Callee P w K mg base 1 "leading_rights" ["wants", "held", "layers"] [] leadS := by
  refine callee_of Df sc_leading_rights (by decide) (by decide) fun f cdv A outer s H EX W hr hG tk hp => ?_
  refine ⟨_, (ss_cons (s_set 3 (q_lst a_nil) sc_leading_rights.nd)
      (ss_cons (s_set 4 (q_dict0).fz sc_leading_rights.nd)
      (ss_cons (s_for hp rfl (i_rev (by rfl) B.reversed (p_nm 2).val) (g_name 5 sc_leading_rights.nd) (ss_cons (s_set 6 q_dict0 sc_leading_rights.nd)
      (ss_cons (s_for hp rfl (i_list (p_nm 5).val) (g_name 7 sc_leading_rights.nd) (ss_one (s_if (t_eqL (hu65 hr) (p_nm 3) ((q_lst a_nil)).p) (ss_one (s_dput 6 (hu65 hr) ((q_lc (own := [("right", 8)]) rfl sc_leading_rights.nd (i_list (q_ixA (hu65 hr) (p_nm 0) (p_nm 7))) (blkOk_by (by rfl)) (fun _ _ _ _ _ => (g_name 8 sc_leading_rights.nd)) (fun _ _ _ _ _ => (ts_one (t_niA (hu65 hr) (p_nm 8) (p_nm 1)))) (fun _ _ _ _ _ => (p_nm 8).val))).fz (p_nm 7).val)) (ss_one (s_dput 6 (hu65 hr) ((q_lc (own := [("right", 8)]) rfl sc_leading_rights.nd (i_list (q_ixA (hu65 hr) (p_nm 0) (p_nm 7))) (blkOk_by (by rfl)) (fun _ _ _ _ _ => (g_name 8 sc_leading_rights.nd)) (fun _ _ _ _ _ => (ts_one (t_ne (hu65 hr) ((q_dget2 (hu65 hr) (p_nm 4) (q_ixA (hu65 hr) (p_nm 1) (p_nm 8)) ((q_lst a_nil)).fz)).p ((q_lst a_nil)).p))) (fun _ _ _ _ _ => (p_nm 8).val))).fz (p_nm 7).val)))))
      (ss_cons (s_expr (q_append 3 (a_cons (q_fzn 6) a_nil)))
      (ss_one (s_set 4 (q_fzn 6) sc_leading_rights.nd))))))
      (ss_one (s_ret ((q_revL (p_nm 3))).fz))))), fun args Q E hl h => ?_⟩
  clear hl hr hG tk hp W EX H s outer A cdv f Df B
  obtain ⟨W, G, Ls, rfl, hi, hM, hl, hf, h⟩ := h
  walk_at "nf"
  refine .fr [3, 4, 5, 6, 7] (fun j vs => ∃ x y z, vs = [some (.ow .lst ((List.range j).map fun k => wayD W G (Ls.drop (Ls.length - 1 - k)))), some (.fz (wayD W G (Ls.drop (Ls.length - j)))), x, y, z]) ⟨[_, _, _, _, _], rfl, _, _, _, by rw [Nat.sub_zero, List.drop_length]; exact rfl⟩ ?_ ?_
  · rintro j d vs hd ⟨x, y, z, rfl⟩
    rw [← List.map_reverse, List.getElem?_map] at hd
    obtain ⟨L, hL, rfl⟩ := Option.map_eq_some_iff.mp hd
    have hj : j < Ls.length := by have := (List.getElem?_eq_some_iff.mp hL).1; rwa [List.length_reverse] at this
    rw [List.getElem?_reverse hj] at hL
    have hdr := drop_cons hL
    obtain ⟨hLn, hL100, hLl⟩ := hM L (List.mem_of_getElem? hL)
    have e1 : Ls.length - 1 - j + 1 = Ls.length - j := by omega
    rw [e1] at hdr
    walk_at "nf"
    refine .over L (fun i => .int (i : Nat)) rfl [6, 7] (fun k vs => ∃ x, vs = [some (.ow (.dK ((L.take k).map natK)) ((L.take k).map fun i => intsD (leadW W G (L :: Ls.drop (Ls.length - j)) i))), x]) ⟨[_, _], rfl, _, rfl⟩ ?_ ?_
    · rintro k i vs hk ⟨x, rfl⟩
      have hiL := List.mem_of_getElem? hk
      have hkl := (List.getElem?_eq_some_iff.mp hk).1
      have hiW := hLl i hiL
      have hr : W[i]? = some W[i] := List.getElem?_eq_getElem hiW
      have hrw : rowW W i = W[i] := by rw [rowW, List.getD_eq_getElem?_getD, hr]; rfl
      have hno : i ∉ L.take k := fun hm => by
        obtain ⟨m, hm1⟩ := List.getElem?_of_mem hm
        have hmk : m < k := by have := (List.getElem?_eq_some_iff.mp hm1).1; rw [List.length_take] at this; omega
        rw [List.getElem?_take, if_pos hmk] at hm1
        obtain ⟨_, ea⟩ := List.getElem?_eq_some_iff.mp hm1
        obtain ⟨_, eb⟩ := List.getElem?_eq_some_iff.mp hk
        have := (List.getElem_inj hLn).mp (ea.trans eb.symm)
        omega
      have hsz : (List.map natK (L.take k)).length < sizeLine := by
        rw [List.length_map, List.length_take]
        exact Nat.lt_of_le_of_lt (show _ ≤ 100 by omega) (by decide)
      have fin : ∀ v, intsD (leadW W G (L :: Ls.drop (Ls.length - j)) i) = v → (.ow (.dK (putKs ((L.take k).map natK) (.inl (i : Nat)))) (putVs ((L.take k).map natK) ((L.take k).map fun i => intsD (leadW W G (L :: Ls.drop (Ls.length - j)) i)) (.inl (i : Nat)) v) : T) = .ow (.dK ((L.take (k + 1)).map natK)) ((L.take (k + 1)).map fun i => intsD (leadW W G (L :: Ls.drop (Ls.length - j)) i)) := fun v hv => by
        have e := put_new (f := fun i => intsD (leadW W G (L :: Ls.drop (Ls.length - j)) i)) hno hv
        rw [List.take_succ, hk, Option.toList_some, ← e.1, ← e.2]; rfl
      walk_at "nf"
      rcases Nat.eq_zero_or_pos j with j0 | j0
      · subst j0
        have hrest : Ls.drop (Ls.length - 0) = [] := by rw [Nat.sub_zero, List.drop_length]
        refine .inl ⟨.inr ⟨rfl, rfl⟩, fun z => ?_, fun z => (nomatch z)⟩
        walk_at "nf"
        refine ⟨intsD W[i], at_of (by rw [List.getElem?_map, hr]; rfl), ?_⟩
        refine .over W[i] D.int rfl (fun v => (holder G v).isNone) D.int (fun m v hv => ?_) ?_
        · refine ⟨_, dget_held hi, fun z => ⟨over_yes hv (by cases e : holder G v <;> simp [e] at z ⊢), rfl⟩, fun z => ⟨over_no hv (by cases e : holder G v <;> simp [e] at z ⊢), rfl⟩⟩
        refine ⟨rfl, hsz, ?_⟩
        have hv : intsD (leadW W G (L :: Ls.drop (Ls.length - 0)) i) = D.nd .lst ((W[i].filter fun v => (holder G v).isNone).map D.int) := by
          rw [hrest, lead_cons hiL, hrw]; rfl
        exact ⟨[_, _], rfl, some (.fz (.int (i : Nat))), by rw [← fin _ hv]; exact rfl⟩
      · have hne : Ls.length - j < Ls.length := by omega
        obtain ⟨L', hL'⟩ : ∃ L', Ls[Ls.length - j]? = some L' := ⟨_, List.getElem?_eq_getElem hne⟩
        have hdr2 := drop_cons hL'
        refine .inr ⟨_, [], rfl, rfl, by simp; omega, fun z => (nomatch z), fun z => ?_⟩
        walk_at "nf"
        refine ⟨intsD W[i], at_of (by rw [List.getElem?_map, hr]; rfl), ?_⟩
        have hnf := hf (Ls.length - 1 - j) L (by omega) hL
        refine .over W[i] D.int rfl (fun v => match holder G v with | some j' => !(leadW W G (Ls.drop (Ls.length - j)) j').isEmpty | none => false) D.int (fun m v hv => ?_) ?_
        · obtain ⟨q, hq⟩ := nofree_at hnf hiL (by rw [hrw]; exact List.mem_of_getElem? hv)
          have ev : ((if q ∈ L' then some (intsD (leadW W G (L' :: Ls.drop (Ls.length - j + 1)) q)) else none).getD (T.ow Kd.lst []).d) = intsD (leadW W G (Ls.drop (Ls.length - j)) q) := by
            rw [hdr2]
            by_cases hq' : q ∈ L'
            · rw [if_pos hq']; rfl
            · rw [if_neg hq', lead_out hq']; rfl
          have hsd : isDT (.fz (wayD W G (Ls.drop (Ls.length - j)))) = true := by rw [hdr2]; rfl
          refine ⟨hsd, _, by rw [dget_held hi, hq]; rfl, ?_⟩
          refine ⟨_, by rw [hdr2]; exact dget_way, ?_⟩
          rw [ev]
          refine ⟨.inr ⟨pl_lst (n := 63) fun d hd => by obtain ⟨i, _, rfl⟩ := List.mem_map.mp hd; rfl, rfl⟩, fun z => ⟨over_yes hv ?_, rfl⟩, fun z => ⟨over_no hv ?_, rfl⟩⟩
          · simp only [hq]
            cases e : leadW W G (Ls.drop (Ls.length - j)) q with
            | nil => rw [e] at z; simp [T.d, eq_nil] at z
            | cons _ _ => rfl
          · simp only [hq]
            cases e : leadW W G (Ls.drop (Ls.length - j)) q with
            | nil => rfl
            | cons _ _ => rw [e] at z; simp [T.d, eqD, eqDs] at z
        refine ⟨rfl, hsz, ?_⟩
        have hv : intsD (leadW W G (L :: Ls.drop (Ls.length - j)) i) = D.nd .lst ((W[i].filter fun v => match holder G v with | some j' => !(leadW W G (Ls.drop (Ls.length - j)) j').isEmpty | none => false).map D.int) := by
          rw [lead_cons hiL, hrw, hdr2]; rfl
        exact ⟨[_, _], rfl, some (.fz (.int (i : Nat))), by rw [← fin _ hv]; exact rfl⟩
    · rintro vs ⟨x, rfl⟩
      rw [List.take_length]
      walk_at "nf"
      refine ⟨rfl, by rw [List.length_map, List.length_range]; exact Nat.lt_of_le_of_lt (show j ≤ 100 by omega) (by decide), ?_⟩
      walk_at "nf"
      have ew : wayD W G (Ls.drop (Ls.length - (j + 1))) = .nd (.dK (L.map natK)) (L.map fun i => intsD (leadW W G (L :: Ls.drop (Ls.length - j)) i)) := by
        rw [show Ls.length - (j + 1) = Ls.length - 1 - j by omega, hdr]; rfl
      exact ⟨[_, _, _, _, _], rfl, some (.fz (natsL L)), some (.fz (.nd (.dK (L.map natK)) (L.map fun i => intsD (leadW W G (L :: Ls.drop (Ls.length - j)) i)))), x, by rw [List.range_succ, List.map_append, List.map_singleton, show Ls.length - 1 - j = Ls.length - (j + 1) by omega, ew]; exact rfl⟩
  · rintro vs ⟨x, y, z, rfl⟩
    rw [List.length_reverse, List.length_map]
    walk_at "nf"
    have er : ((List.range Ls.length).map fun k => wayD W G (Ls.drop (Ls.length - 1 - k))).reverse = (List.range Ls.length).map fun k => wayD W G (Ls.drop k) := by
      apply List.ext_getElem
      · simp
      · intro i h1 h2
        simp at h1 h2
        simp
        congr 2
        omega
    rw [← er] at h
    exact h
theorem ok_look_out (Df : DefAt K mg "look_out" s_look_out ["wants", "given", "at"]) (C_holders_of : Callee P w K mg base 1 "holders_of" ["given"] [] holdS) (C_layers_from : Callee P w K mg base 2 "layers_from" ["wants", "held", "at"] [] layS) (C_leading_rights : Callee P w K mg base 1 "leading_rights" ["wants", "held", "layers"] [] leadS) (C_has_free_right : Callee P w K mg base 1 "has_free_right" ["wants", "held", "layer"] [] freeS) : Callee P w K mg base 3 "look_out" ["wants", "given", "at"] [] lookS := by
  refine callee_of Df sc_look_out (by decide) (by decide) fun f cdv A outer s H EX W hr hG tk hp => ?_
  refine ⟨_, (ss_cons (s_set 3 (q_callC C_holders_of tk (hr.mono (by decide)) hG (by rfl) (a_cons (p_nm 1).val a_nil) []) sc_look_out.nd)
      (ss_cons (s_set 4 (q_callC C_layers_from tk (hr.mono (by decide)) hG (by rfl) (a_cons (p_nm 0).val (a_cons (p_nm 3).val (a_cons (p_nm 2).val a_nil))) []) sc_look_out.nd)
      (ss_cons (s_if (t_not (t_val (q_callC C_has_free_right tk (hr.mono (by decide)) hG (by rfl) (a_cons (p_nm 0).val (a_cons (p_nm 3).val (a_cons (q_ixA (hu65 hr) (p_nm 4) ((q_neg (q_int).p)).p) a_nil))) []))) (ss_one (s_ret (q_tup (a_cons ((q_lst a_nil)).fz (a_cons (p_nm 4).val a_nil))))) ss_nil)
      (ss_cons (s_set 5 (q_lst a_nil) sc_look_out.nd)
      (ss_cons (s_set 6 (p_nm 2).val sc_look_out.nd)
      (ss_cons (s_for hp rfl (i_list (q_callC C_leading_rights tk (hr.mono (by decide)) hG (by rfl) (a_cons (p_nm 0).val (a_cons (p_nm 3).val (a_cons (p_nm 4).val a_nil))) [])) (g_name 7 sc_look_out.nd) (ss_cons (s_set 8 (q_ixA (hu65 hr) ((q_ixA (hu65 hr) (p_nm 7) (p_nm 6))).p (q_int).p) sc_look_out.nd)
      (ss_cons (s_expr (q_append 5 (a_cons (q_tup (a_cons (p_nm 6).val (a_cons (p_nm 8).val a_nil))) a_nil)))
      (ss_one (s_set 6 (q_dget1 (hu65 hr) (p_nm 3) (p_nm 8).val) sc_look_out.nd)))))
      (ss_one (s_ret (q_tup (a_cons (q_fzn 5) (a_cons (p_nm 4).val a_nil))))))))))), fun args Q E hl h => ?_⟩
  clear hl hr hG tk hp W EX H s outer A cdv f Df C_holders_of C_layers_from C_leading_rights C_has_free_right
  obtain ⟨W, G, a, rfl, hi, hl, hW, ha, h⟩ := h
  walk_at "nf"
  refine ⟨G, rfl, hi, by omega, ?_⟩
  walk_at "nf"
  refine ⟨W, G, a, rfl, hi, hl, hW, ha, fun Ls fl hd => ?_⟩
  walk_at "nf"
  have hmany := hd.few hl (by simp) (by simpa using ha)
  have heach := hd.each (by simp) (by simpa using ha)
  have hfrees := hd.frees
  have hpos : 0 < Ls.length := by obtain ⟨Ls', rfl⟩ := hd.head; simp
  obtain ⟨M, hM⟩ : ∃ M, Ls[Ls.length - 1]? = some M := ⟨_, List.getElem?_eq_getElem (by omega)⟩
  have hMl : freeL W G M = fl := hfrees.2 M (by rw [List.getLast?_eq_getElem?]; exact hM)
  have hMe := heach M (List.mem_of_getElem? hM)
  simp only [List.length_singleton] at hmany
  refine ⟨natsL M, at_last (by rw [List.length_map, List.getElem?_map, hM]; rfl), ?_⟩
  refine ⟨W, G, M, rfl, hi, hMe.2, ?_⟩
  rw [hMl]
  refine ⟨fun z => ?_, fun z => ?_⟩
  · have e0 : fl = false := by simpa using z
    subst e0
    exact h Ls false hd
  · have e0 : fl = true := by simpa using z
    subst e0
    walk_at "nf"
    refine ⟨W, G, Ls, rfl, hi, fun M hM => ⟨(heach M hM).1, Nat.le_trans (few_lt (heach M hM).1 (heach M hM).2) hW, (heach M hM).2⟩, by omega, hfrees.1, ?_⟩
    obtain ⟨i0, hi0, hw0⟩ := hd.way hl hi rfl
    have hi0 : i0 = a := by simpa using hi0
    subst hi0
    have hres := h Ls true hd
    refine .over (List.range Ls.length) (fun k => wayD W G (Ls.drop k)) rfl [5, 6, 7, 8] (fun k vs => ∃ (r : List (Nat × Int)) (one : D) (x y : Option T), vs = [some (.ow .lst (r.map fun p => .nd .tup [.int (p.1 : Nat), .int p.2])), some (.fz one), x, y] ∧ r.length = k ∧
      ((k < Ls.length ∧ ∃ i : Nat, one = .int (i : Nat) ∧ leadW W G (Ls.drop k) i ≠ [] ∧ r ++ rowF W G (Ls.drop k) i = rowF W G Ls i0) ∨ (k = Ls.length ∧ r = rowF W G Ls i0))) ⟨[_, _, _, _], rfl, [], _, _, _, rfl, rfl, .inl ⟨hpos, i0, rfl, by simpa using hw0, by simp⟩⟩ ?_ ?_
    · rintro k k' vs hk ⟨r, one, x, y, rfl, hrl, hor⟩
      obtain ⟨hkl, rfl⟩ : k < Ls.length ∧ k' = k := by
        rw [List.getElem?_eq_some_iff] at hk
        obtain ⟨h1, h2⟩ := hk
        simp at h1 h2
        exact ⟨h1, h2.symm⟩
      obtain ⟨_, i, rfl, hw, hrow⟩ := hor.resolve_right fun ⟨z, _⟩ => by omega
      obtain ⟨L, hL⟩ : ∃ L, Ls[k']? = some L := ⟨_, List.getElem?_eq_getElem hkl⟩
      have hdr := drop_cons hL
      rw [hdr] at hw hrow
      obtain ⟨v, tl, hv⟩ : ∃ v tl, leadW W G (L :: Ls.drop (k' + 1)) i = v :: tl := by
        cases e : leadW W G (L :: Ls.drop (k' + 1)) i with
        | nil => exact absurd e hw
        | cons v tl => exact ⟨v, tl, rfl⟩
      obtain ⟨hiL, hvr, hnx⟩ := lead_mem (W := W) (G := G) (L := L) (Ls := Ls.drop (k' + 1)) (i := i) (x := v) (by rw [hv]; simp)
      rw [hdr]
      walk_at "nf"
      refine ⟨intsD (leadW W G (L :: Ls.drop (k' + 1)) i), dget_way.trans (by rw [if_pos hiL]), ?_⟩
      rw [hv]
      refine ⟨.int v, at_int (by decide) rfl, ?_⟩
      walk_at "nf"
      refine ⟨rfl, by rw [List.length_map]; exact Nat.lt_of_le_of_lt (show r.length ≤ 100 by omega) (by decide), ?_⟩
      walk_at "nf"
      refine ⟨rfl, _, dget_held hi, ?_⟩
      rw [rowF, hv] at hrow
      rcases hnx with ⟨hend, hno⟩ | ⟨hgo, q, hq, hwq⟩
      · have hkn : k' + 1 = Ls.length := by
          have := congrArg List.length hend
          rw [List.length_drop] at this
          simp at this
          omega
        rw [hno]
        simp only [hno] at hrow
        exact ⟨[_, _, _, _], rfl, r ++ [(i, v)], .non, some (.fz (wayD W G (L :: Ls.drop (k' + 1)))), some (.fz (.int v)), by rw [List.map_append]; exact rfl, by simp [hrl], .inr ⟨hkn, hrow⟩⟩
      · have hkn : k' + 1 < Ls.length := by
          rcases Nat.lt_or_ge (k' + 1) Ls.length with z | z
          · exact z
          · exact absurd (List.drop_eq_nil_of_le z) hgo
        rw [hq]
        simp only [hq] at hrow
        exact ⟨[_, _, _, _], rfl, r ++ [(i, v)], .int (q : Nat), some (.fz (wayD W G (L :: Ls.drop (k' + 1)))), some (.fz (.int v)), by rw [List.map_append]; exact rfl, by simp [hrl], .inl ⟨hkn, q, rfl, hwq, by rw [List.append_assoc]; exact hrow⟩⟩
    · rintro vs ⟨r, one, x, y, rfl, hrl, hor⟩
      rw [List.length_range] at hor
      rcases hor with ⟨z, _⟩ | ⟨_, rfl⟩
      · omega
      · exact hres

theorem ok_turned_along (Df : DefAt K mg "turned_along" s_turned_along ["given", "row"]) (B : Bt mg) : Callee P w K mg base 1 "turned_along" ["given", "row"] [] turnS := by
  refine callee_of Df sc_turned_along (by decide) (by decide) fun f cdv A outer s H EX W hr hG tk hp => ?_
  refine ⟨_, (ss_cons (s_set 2 (q_ty1 call_list_of g_list (by rfl) B.list bt_list (p_nm 0)) sc_turned_along.nd)
      (ss_cons (s_for hp rfl (i_list (p_nm 1).val) (g_tup (n := 2) rfl (gs_cons (g_name 3 sc_turned_along.nd) (gs_cons (g_name 4 sc_turned_along.nd) gs_nil))) (ss_one (s_store 2 (p_nm 4).val (p_nm 3).val)))
      (ss_one (s_ret (q_mvn 2))))), fun args Q E hl h => ?_⟩
  clear hl hr hG tk hp W EX H s outer A cdv f Df B
  obtain ⟨G, r, rfl, hl, hr, h⟩ := h
  walk_at "nf"
  refine .over r (fun p => .nd .tup [.int (p.1 : Nat), .int p.2]) rfl [2, 3, 4] (fun j vs => ∃ x y, vs = [some (.ow .lst ((turnF G (r.take j)).map giD)), x, y]) ⟨[_, _, _], rfl, _, _, rfl⟩ ?_ ?_
  · rintro j ⟨i, v⟩ vs hj ⟨x, y, rfl⟩
    have hi := hr _ (List.mem_of_getElem? hj)
    refine ⟨rfl, ?_⟩
    walk_at "nf"
    refine ⟨rfl, i, by rw [List.length_map, turn_len, ixN_of (by omega) (by omega)]; try rfl, ?_⟩
    have e : turnF G (r.take (j + 1)) = (turnF G (r.take j)).set i (some v) := by
      rw [List.take_succ, hj, Option.toList_some]; unfold turnF; rw [List.foldl_append]; rfl
    exact ⟨[_, _, _], rfl, some (.fz (.int (i : Nat))), some (.fz (.int v)), by rw [e, List.map_set]; try exact rfl⟩
  · rintro vs ⟨x, y, rfl⟩
    rw [List.take_length]
    exact h
theorem ok_filled_from (Df : DefAt K mg "filled_from" s_filled_from ["wants", "given"]) (B : Bt mg) (C_turned_along : Callee P w K mg base 1 "turned_along" ["given", "row"] [] turnS) (C_look_out : Callee P w K mg base 3 "look_out" ["wants", "given", "at"] [] lookS) : Callee P w K mg base 4 "filled_from" ["wants", "given"] [] fillS := by
  refine callee_of Df sc_filled_from (by decide) (by decide) fun f cdv A outer s H EX W hr hG tk hp => ?_
  refine ⟨_, (ss_cons (s_set 2 (q_ty1 call_list_of g_list (by rfl) B.list bt_list (p_nm 1)) sc_filled_from.nd)
      (ss_cons (s_for hp rfl (i_rng (by rfl) B.range (q_b1 c_lenB g_lenB (by rfl) B.len bt_len (p_nm 0))) (g_name 3 sc_filled_from.nd) (ss_one (s_if (t_isN ((q_ixA (hu65 hr) (p_nm 2) (p_nm 3))).p (q_non).p) (ss_one (s_set 2 (q_callC C_turned_along tk (hr.mono (by decide)) hG (by rfl) (a_cons (q_fzn 2) (a_cons (q_ixA (hu65 hr) ((q_callC C_look_out tk (hr.mono (by decide)) hG (by rfl) (a_cons (p_nm 0).val (a_cons (q_fzn 2) (a_cons (p_nm 3).val a_nil))) [])).p (q_int).p) a_nil)) []) sc_filled_from.nd)) ss_nil)))
      (ss_one (s_ret (q_mvn 2))))), fun args Q E hl h => ?_⟩
  clear hl hr hG tk hp W EX H s outer A cdv f Df B C_turned_along C_look_out
  obtain ⟨W, G, rfl, hG, hW, h⟩ := h
  walk_at "nf"
  refine ⟨by rw [List.length_map]; exact Int.le_trans (show ((W.length : Nat) : Int) ≤ 200 by omega) (by decide), by omega, ?_⟩
  refine .rng [2, 3] (fun j vs => ∃ (G' : List (Option Int)) (x : Option T), vs = [some (.ow .lst (G'.map giD)), x] ∧ FillN W G j G') ⟨[_, _], rfl, G, _, rfl, .zero⟩ ?_ ?_
  · rintro j vs hj ⟨G', x, rfl, hf⟩
    rw [List.length_map, Int.toNat_natCast] at hj
    have hok := hf.ok hG hW (by omega)
    have hl : G'.length = W.length := hok.ok.1
    obtain ⟨o, ho⟩ : ∃ o, G'[j]? = some o := ⟨_, List.getElem?_eq_getElem (by omega)⟩
    rw [Int.zero_add]
    walk_at "nf"
    refine ⟨giD o, at_of (by rw [List.getElem?_map, ho]; rfl), ?_⟩
    cases o with
    | some y => exact ⟨fun z => (nomatch z), fun _ => ⟨[_, _], rfl, G', _, rfl, .skip hf ho⟩⟩
    | none =>
      refine ⟨fun _ => ?_, fun z => (nomatch z)⟩
      walk_at "nf"
      refine ⟨W, G', j, rfl, hok.ok.2.2, hl, hW, by omega, fun Ls fl hd => ?_⟩
      refine ⟨_, at_int (by decide) rfl, ?_⟩
      refine ⟨G', rowG W G' Ls fl j, rfl, by omega, fun p hp => ?_, ?_⟩
      · cases fl with
        | false => cases hp
        | true => rw [hl]; exact (row_okp hok.ok hW (by omega) hd).2.2.1 p hp
      · exact ⟨[_, _], rfl, _, _, rfl, .fill hf ho hd⟩
  · rintro vs ⟨G', x, rfl, hf⟩
    rw [List.length_map, Int.toNat_natCast] at hf
    exact h G' hf

theorem ok_more_than_wanted (Df : DefAt K mg "more_than_wanted" s_more_than_wanted ["wants", "some"]) (B : Bt mg) : Callee P w K mg base 1 "more_than_wanted" ["wants", "some"] [] moreS := by
  refine callee_of Df sc_more_than_wanted (by decide) (by decide) fun f cdv A outer s H EX W hr hG tk hp => ?_
  refine ⟨_, (ss_cons (s_set 2 q_dict0 sc_more_than_wanted.nd)
      (ss_cons (s_for hp rfl (i_list (p_nm 1).val) (g_name 3 sc_more_than_wanted.nd) (ss_one (s_for hp rfl (i_list (q_ixA (hu65 hr) (p_nm 0) (p_nm 3))) (g_name 4 sc_more_than_wanted.nd) (ss_one (s_dput 2 (hu65 hr) q_bl (p_nm 4).val)))))
      (ss_one (s_ret (q_sub ((q_b1 c_lenB g_lenB (by rfl) B.len bt_len (p_nm 1))).p ((q_b1 c_lenB g_lenB (by rfl) B.len bt_len (p_nm 2))).p))))), fun args Q E hl h => ?_⟩
  clear hl hr hG tk hp W EX H s outer A cdv f Df B
  obtain ⟨W, S, rfl, hW, hS, h⟩ := h
  walk_at "nf"
  refine .over S (fun k => .int (k : Nat)) rfl [2, 3, 4] (fun j vs => ∃ ds x y, vs = [some (.ow (.dK ((dd (allR W (S.take j))).map Sum.inl)) ds), x, y]) ⟨[_, _, _], rfl, _, _, _, rfl⟩ ?_ ?_
  · rintro j k vs hj ⟨ds, x, y, rfl⟩
    have hjl : j < S.length := (List.getElem?_eq_some_iff.mp hj).1
    have hk := hS.2.1 k (List.mem_of_getElem? hj)
    have hr : W[k]? = some W[k] := List.getElem?_eq_getElem hk
    have hrl := (hW.2 _ (List.mem_of_getElem? hr)).2.2
    have h3 := hS.2.2
    have hal := allR_len hW (S.take j)
    rw [List.length_take] at hal
    walk_at "nf"
    refine ⟨intsD W[k], at_of (by rw [List.getElem?_map, hr]; rfl), ?_⟩
    refine .over W[k] D.int rfl [2, 4] (fun i vs => ∃ ds y, vs = [some (.ow (.dK ((dd (allR W (S.take j) ++ W[k].take i)).map Sum.inl)) ds), y]) ⟨[_, _], rfl, _, _, by rw [List.take_zero, List.append_nil]⟩ ?_ ?_
    · rintro i m vs hi ⟨ds, y, rfl⟩
      walk_at "nf"
      have hdl := dd_le (allR W (S.take j) ++ W[k].take i)
      rw [List.length_append, List.length_take] at hdl
      refine ⟨rfl, Nat.lt_of_le_of_lt (show (List.map Sum.inl (dd (allR W (S.take j) ++ W[k].take i))).length ≤ 12000 by rw [List.length_map]; omega) (by decide), ?_⟩
      exact ⟨[_, _], rfl, _, _, by rw [List.take_succ, hi, Option.toList_some, ← List.append_assoc, ← dd_put]⟩
    · rintro vs ⟨ds, y, rfl⟩
      rw [List.take_length]
      exact ⟨[_, _, _], rfl, _, _, _, by rw [List.take_succ, hj, Option.toList_some, allR_snoc hr]⟩
  · rintro vs ⟨ds, x, y, rfl⟩
    rw [List.take_length]
    walk_at "nf"
    have e : (((S.map fun k => D.int (k : Nat)).length : Nat) : Int) - (((dd (allR W S)).map (Sum.inl (β := Str))).length : Int) = moreV W S := by rw [List.length_map, List.length_map]; rfl
    show Q (.fz (.int ((((S.map fun k => D.int (k : Nat)).length : Nat) : Int) - (((dd (allR W S)).map (Sum.inl (β := Str))).length : Int)))) []
    rw [e]
    exact h
theorem ok_more (Df : DefAt K mg "_law_more" s_more ["_law_wants", "_law_some"]) (B : Bt mg) : Callee P w K mg base 1 "_law_more" ["_law_wants", "_law_some"] [] moreS := by
  refine callee_of Df sc_more (by decide) (by decide) fun f cdv A outer s H EX W hr hG tk hp => ?_
  refine ⟨_, (ss_cons (s_set 2 q_dict0 sc_more.nd)
      (ss_cons (s_for hp rfl (i_list (p_nm 1).val) (g_name 3 sc_more.nd) (ss_one (s_for hp rfl (i_list (q_ixA (hu65 hr) (p_nm 0) (p_nm 3))) (g_name 4 sc_more.nd) (ss_one (s_dput 2 (hu65 hr) q_bl (p_nm 4).val)))))
      (ss_one (s_ret (q_sub ((q_b1 c_lenB g_lenB (by rfl) B.len bt_len (p_nm 1))).p ((q_b1 c_lenB g_lenB (by rfl) B.len bt_len (p_nm 2))).p))))), fun args Q E hl h => ?_⟩
  clear hl hr hG tk hp W EX H s outer A cdv f Df B
  obtain ⟨W, S, rfl, hW, hS, h⟩ := h
  walk_at "nf"
  refine .over S (fun k => .int (k : Nat)) rfl [2, 3, 4] (fun j vs => ∃ ds x y, vs = [some (.ow (.dK ((dd (allR W (S.take j))).map Sum.inl)) ds), x, y]) ⟨[_, _, _], rfl, _, _, _, rfl⟩ ?_ ?_
  · rintro j k vs hj ⟨ds, x, y, rfl⟩
    have hjl : j < S.length := (List.getElem?_eq_some_iff.mp hj).1
    have hk := hS.2.1 k (List.mem_of_getElem? hj)
    have hr : W[k]? = some W[k] := List.getElem?_eq_getElem hk
    have hrl := (hW.2 _ (List.mem_of_getElem? hr)).2.2
    have h3 := hS.2.2
    have hal := allR_len hW (S.take j)
    rw [List.length_take] at hal
    walk_at "nf"
    refine ⟨intsD W[k], at_of (by rw [List.getElem?_map, hr]; rfl), ?_⟩
    refine .over W[k] D.int rfl [2, 4] (fun i vs => ∃ ds y, vs = [some (.ow (.dK ((dd (allR W (S.take j) ++ W[k].take i)).map Sum.inl)) ds), y]) ⟨[_, _], rfl, _, _, by rw [List.take_zero, List.append_nil]⟩ ?_ ?_
    · rintro i m vs hi ⟨ds, y, rfl⟩
      walk_at "nf"
      have hdl := dd_le (allR W (S.take j) ++ W[k].take i)
      rw [List.length_append, List.length_take] at hdl
      refine ⟨rfl, Nat.lt_of_le_of_lt (show (List.map Sum.inl (dd (allR W (S.take j) ++ W[k].take i))).length ≤ 12000 by rw [List.length_map]; omega) (by decide), ?_⟩
      exact ⟨[_, _], rfl, _, _, by rw [List.take_succ, hi, Option.toList_some, ← List.append_assoc, ← dd_put]⟩
    · rintro vs ⟨ds, y, rfl⟩
      rw [List.take_length]
      exact ⟨[_, _, _], rfl, _, _, _, by rw [List.take_succ, hj, Option.toList_some, allR_snoc hr]⟩
  · rintro vs ⟨ds, x, y, rfl⟩
    rw [List.take_length]
    walk_at "nf"
    have e : (((S.map fun k => D.int (k : Nat)).length : Nat) : Int) - (((dd (allR W S)).map (Sum.inl (β := Str))).length : Int) = moreV W S := by rw [List.length_map, List.length_map]; rfl
    show Q (.fz (.int ((((S.map fun k => D.int (k : Nat)).length : Nat) : Int) - (((dd (allR W S)).map (Sum.inl (β := Str))).length : Int)))) []
    rw [e]
    exact h
theorem ok_filled (Df : DefAt K mg "_law_filled" s_filled ["_law_wants", "_law_given"]) (B : Bt mg) (C_turned : Callee P w K mg base 1 "_law_turned" ["_law_given", "_law_row"] [] turnS) (C_look : Callee P w K mg base 2 "_law_look" ["_law_wants", "_law_given", "_law_at"] [] llookS) : Callee P w K mg base 3 "_law_filled" ["_law_wants", "_law_given"] [] fillS := by
  refine callee_of Df sc_filled (by decide) (by decide) fun f cdv A outer s H EX W hr hG tk hp => ?_
  refine ⟨_, (ss_cons (s_set 2 (q_ty1 call_list_of g_list (by rfl) B.list bt_list (p_nm 1)) sc_filled.nd)
      (ss_cons (s_for hp rfl (i_rng (by rfl) B.range (q_b1 c_lenB g_lenB (by rfl) B.len bt_len (p_nm 0))) (g_name 3 sc_filled.nd) (ss_one (s_if (t_isN ((q_ixA (hu65 hr) (p_nm 2) (p_nm 3))).p (q_non).p) (ss_one (s_set 2 (q_callC C_turned tk (hr.mono (by decide)) hG (by rfl) (a_cons (q_fzn 2) (a_cons (q_ixA (hu65 hr) ((q_callC C_look tk (hr.mono (by decide)) hG (by rfl) (a_cons (p_nm 0).val (a_cons (q_fzn 2) (a_cons (p_nm 3).val a_nil))) [])).p (q_int).p) a_nil)) []) sc_filled.nd)) ss_nil)))
      (ss_one (s_ret (q_mvn 2))))), fun args Q E hl h => ?_⟩
  clear hl hr hG tk hp W EX H s outer A cdv f Df B C_turned C_look
  obtain ⟨W, G, rfl, hG, hW, h⟩ := h
  walk_at "nf"
  refine ⟨by rw [List.length_map]; exact Int.le_trans (show ((W.length : Nat) : Int) ≤ 200 by omega) (by decide), by omega, ?_⟩
  refine .rng [2, 3] (fun j vs => ∃ (G' : List (Option Int)) (x : Option T), vs = [some (.ow .lst (G'.map giD)), x] ∧ FillN W G j G') ⟨[_, _], rfl, G, _, rfl, .zero⟩ ?_ ?_
  · rintro j vs hj ⟨G', x, rfl, hf⟩
    rw [List.length_map, Int.toNat_natCast] at hj
    have hok := hf.ok hG hW (by omega)
    have hl : G'.length = W.length := hok.ok.1
    obtain ⟨o, ho⟩ : ∃ o, G'[j]? = some o := ⟨_, List.getElem?_eq_getElem (by omega)⟩
    rw [Int.zero_add]
    walk_at "nf"
    refine ⟨giD o, at_of (by rw [List.getElem?_map, ho]; rfl), ?_⟩
    cases o with
    | some y => exact ⟨fun z => (nomatch z), fun _ => ⟨[_, _], rfl, G', _, rfl, .skip hf ho⟩⟩
    | none =>
      refine ⟨fun _ => ?_, fun z => (nomatch z)⟩
      walk_at "nf"
      refine ⟨W, G', j, rfl, hok.ok.2.2, hl, hW, by omega, fun Ls fl hd => ?_⟩
      refine ⟨_, at_int (by decide) rfl, ?_⟩
      refine ⟨G', rowG W G' Ls fl j, rfl, by omega, fun p hp => ?_, ?_⟩
      · cases fl with
        | false => cases hp
        | true => rw [hl]; exact (row_okp hok.ok hW (by omega) hd).2.2.1 p hp
      · exact ⟨[_, _], rfl, _, _, rfl, .fill hf ho hd⟩
  · rintro vs ⟨G', x, rfl, hf⟩
    rw [List.length_map, Int.toNat_natCast] at hf
    exact h G' hf
theorem ok_turned (Df : DefAt K mg "_law_turned" s_turned ["_law_given", "_law_row"]) (B : Bt mg) : Callee P w K mg base 1 "_law_turned" ["_law_given", "_law_row"] [] turnS := by
  refine callee_of Df sc_turned (by decide) (by decide) fun f cdv A outer s H EX W hr hG tk hp => ?_
  refine ⟨_, (ss_cons (s_set 2 (q_ty1 call_list_of g_list (by rfl) B.list bt_list (p_nm 0)) sc_turned.nd)
      (ss_cons (s_for hp rfl (i_list (p_nm 1).val) (g_tup (n := 2) rfl (gs_cons (g_name 3 sc_turned.nd) (gs_cons (g_name 4 sc_turned.nd) gs_nil))) (ss_one (s_store 2 (p_nm 4).val (p_nm 3).val)))
      (ss_one (s_ret (q_mvn 2))))), fun args Q E hl h => ?_⟩
  clear hl hr hG tk hp W EX H s outer A cdv f Df B
  obtain ⟨G, r, rfl, hl, hr, h⟩ := h
  walk_at "nf"
  refine .over r (fun p => .nd .tup [.int (p.1 : Nat), .int p.2]) rfl [2, 3, 4] (fun j vs => ∃ x y, vs = [some (.ow .lst ((turnF G (r.take j)).map giD)), x, y]) ⟨[_, _, _], rfl, _, _, rfl⟩ ?_ ?_
  · rintro j ⟨i, v⟩ vs hj ⟨x, y, rfl⟩
    have hi := hr _ (List.mem_of_getElem? hj)
    refine ⟨rfl, ?_⟩
    walk_at "nf"
    refine ⟨rfl, i, by rw [List.length_map, turn_len, ixN_of (by omega) (by omega)]; try rfl, ?_⟩
    have e : turnF G (r.take (j + 1)) = (turnF G (r.take j)).set i (some v) := by
      rw [List.take_succ, hj, Option.toList_some]; unfold turnF; rw [List.foldl_append]; rfl
    exact ⟨[_, _, _], rfl, some (.fz (.int (i : Nat))), some (.fz (.int v)), by rw [e, List.map_set]; try exact rfl⟩
  · rintro vs ⟨x, y, rfl⟩
    rw [List.take_length]
    exact h

theorem ok_runs (Df : DefAt K mg "_law_runs" s_runs ["_law_bag_here"]) (B : Bt mg) (C_mixed : Callee P w K mg base 2 "_law_mixed" ["_law_bag_here", "_law_many"] [0] mixedS) (C_take : Callee P w K mg base 1 "_law_take" ["_law_bag_here", "_law_many"] [0] takeS) : Callee P w K mg base 3 "_law_runs" ["_law_bag_here"] [0] drwS := by
  refine callee_of Df sc_runs (by decide) (by decide) fun f cdv A outer s H EX W hr hG tk hp => ?_
  refine ⟨_, (ss_cons (s_set 1 (q_add (q_int).p ((q_callC C_take tk (hr.mono (by decide)) hG (by rfl) (a_own 0 (a_cons q_int a_nil)) [0])).p) sc_runs.nd)
      (ss_cons (s_set 2 (q_add (q_int).p ((q_callC C_take tk (hr.mono (by decide)) hG (by rfl) (a_own 0 (a_cons q_int a_nil)) [0])).p) sc_runs.nd)
      (ss_cons (s_set 3 (q_lst a_nil) sc_runs.nd)
      (ss_cons (s_for hp rfl (i_rng (by rfl) B.range (p_nm 1).val) (g_name 4 sc_runs.nd) (ss_cons (s_set 5 (q_callC C_take tk (hr.mono (by decide)) hG (by rfl) (a_own 0 (a_cons (p_nm 2).val a_nil)) [0]) sc_runs.nd)
      (ss_cons (s_set 6 (q_lrng2 rfl (by rfl) B.list (by rfl) B.range (p_nm 5).val (q_add (p_nm 5) ((q_callC C_take tk (hr.mono (by decide)) hG (by rfl) (a_own 0 (a_cons (q_add ((q_sub (p_nm 2) (p_nm 5))).p (q_int).p) a_nil)) [0])).p)) sc_runs.nd)
      (ss_cons (s_for hp rfl (i_rng (by rfl) B.range (q_ixA (hu65 hr) ((q_lst (a_cons q_int (a_cons q_int (a_cons q_int (a_cons q_int a_nil)))))).p ((q_callC C_take tk (hr.mono (by decide)) hG (by rfl) (a_own 0 (a_cons q_int a_nil)) [0])).p)) (g_name 7 sc_runs.nd) (ss_one (s_if (t_ne (hu65 hr) (p_nm 6) ((q_lst a_nil)).p) (ss_one (s_expr (q_popAt 6 (a_cons (q_callC C_take tk (hr.mono (by decide)) hG (by rfl) (a_own 0 (a_cons (q_b1 c_lenB g_lenB (by rfl) B.len bt_len (p_nm 6)) a_nil)) [0]) a_nil)))) ss_nil)))
      (ss_one (s_expr (q_append 3 (a_cons (q_fzn 6) a_nil))))))))
      (ss_cons (s_set 8 (q_lcO (own := [("_law_run", 6)]) rfl sc_runs.nd (i_own 3) (blkOk_by (by rfl)) (fun _ _ _ _ _ => (g_name 6 sc_runs.nd)) (fun _ _ _ _ _ => ts_nil) (fun _ _ _ _ _ => q_non)) sc_runs.nd)
      (ss_cons (s_for hp rfl (i_list ((q_callC C_mixed tk (hr.mono (by decide)) hG (by rfl) (a_own 0 (a_cons (p_nm 1).val a_nil)) [0])).fz) (g_name 4 sc_runs.nd) (ss_cons (s_setLcF 9 (own := [("_law_right", 10)]) rfl sc_runs.nd (i_list (q_ixA (hu65 hr) (p_nm 3) (p_nm 4))) (blkOk_by (by rfl)) (fun _ _ _ _ _ => (g_name 10 sc_runs.nd)) (fun _ _ _ _ _ => (ts_one (t_niA (hu65 hr) (p_nm 10) (p_nm 8)))) (fun _ _ _ _ _ => (p_nm 10).val))
      (ss_one (s_if ((w_and (t_ne (hu65 hr) (p_nm 9) ((q_lst a_nil)).p) (w_and1 (t_gt ((q_callC C_take tk (hr.mono (by decide)) hG (by rfl) (a_own 0 (a_cons q_int a_nil)) [0])).p (q_int).p)))).t (ss_one (s_store 8 (q_ixA (hu65 hr) (p_nm 9) ((q_ixA (hu65 hr) ((q_lst (a_cons q_int (a_cons q_int (a_cons (q_neg (q_int).p) a_nil))))).p ((q_callC C_take tk (hr.mono (by decide)) hG (by rfl) (a_own 0 (a_cons q_int a_nil)) [0])).p)).p) (p_nm 4).val)) ss_nil))))
      (ss_one (s_ret (q_tupT (at_cons (q_fzn 3) (at_cons (q_mvn 8) at_nil))))))))))), fun args Q E hl h => ?_⟩
  clear hl hr hG tk hp W EX H s outer A cdv f Df B C_mixed C_take
  obtain ⟨t, rfl, hb, h⟩ := h
  walk_at "nf"
  refine ⟨_, _, rfl, hb, by decide, by decide, fun m t1 m0 m1 hb1 => ?_⟩
  walk_at "nf"
  refine ⟨_, _, rfl, hb1, by decide, by decide, fun p t2 p0 p1 hb2 => ?_⟩
  walk_at "nf"
  refine ⟨szI (by omega), by omega, ?_⟩
  refine .rng [0, 3, 4, 5, 6, 7] (fun j vs => ∃ (t : T) (Ws : List (List Int)) (x y z u : Option T), vs = [some t, some (.ow .lst (Ws.map intsD)), x, y, z, u] ∧ IsBag t ∧ Ws.length = j ∧ ∀ r, r ∈ Ws → rowOk r) ⟨[_, _, _, _, _, _], rfl, _, [], _, _, _, _, rfl, hb2, rfl, by simp⟩ ?_ ?_
  · rintro j vs hj ⟨t, Ws, x, y, z, u, rfl, hb, hWl, hWs⟩
    walk_at "nf"
    refine ⟨_, _, rfl, hb, by omega, by omega, fun f t3 f0 f1 hb3 => ?_⟩
    walk_at "nf"
    refine ⟨_, _, rfl, hb3, by omega, by omega, fun q t4 q0 q1 hb4 => ?_⟩
    walk_at "nf"
    refine ⟨f0, by omega, szI (by omega), ?_⟩
    walk_at "nf"
    refine ⟨_, _, rfl, hb4, by decide, by decide, fun o t5 o0 o1 hb5 => ?_⟩
    refine at_all (C := fun d => ∃ n : Int, d = .int n ∧ 0 ≤ n ∧ n ≤ 2) o0 o1 ?_ ?_
    · intro d hd
      simp at hd
      rcases hd with rfl | rfl | rfl <;> exact ⟨_, rfl, by decide, by decide⟩
    rintro _ ⟨n, rfl, n0, n2⟩
    refine ⟨szI (by omega), by omega, ?_⟩
    rw [rngF (f := f)]
    refine .rng [0, 6, 7] (fun j vs => ∃ (t : T) (r : List Int) (x : Option T), vs = [some t, some (.ow .lst (r.map .int)), x] ∧ IsBag t ∧ rowOk r) ⟨[_, _, _], rfl, _, _, _, rfl, hb5, run_ok (n := (f + q - f).toNat) f0 (by omega)⟩ ?_ ?_
    · rintro j2 vs hj2 ⟨t, r, x, rfl, hb, hr⟩
      walk_at "nf"
      refine ⟨.inr ⟨pl_ints, rfl⟩, fun z => ?_, fun z => ⟨[_, _, _], rfl, _, r, _, rfl, hb, hr⟩⟩
      have hrn : r ≠ [] := fun e => by subst e; cases z
      have hrp := List.length_pos_iff.mpr hrn
      have hr100 := hr.2.2
      refine ⟨rfl, _, _, rfl, hb, by rw [List.length_map]; omega, by rw [List.length_map]; omega, fun o t6 o0 o1 hb6 => ?_⟩
      rw [List.length_map] at o1
      have hol : o.toNat < r.length := by omega
      refine ⟨o0, .int r[o.toNat], by rw [List.getElem?_map, List.getElem?_eq_getElem hol]; rfl, ?_⟩
      exact ⟨[_, _, _], rfl, t6, r.eraseIdx o.toNat, _, by rw [erase_map], hb6, hr.sub (List.eraseIdx_sublist _ _)⟩
    · rintro vs ⟨t, r, x, rfl, hb, hr⟩
      walk_at "nf"
      refine ⟨rfl, szL (by rw [List.length_map]; omega), ?_⟩
      exact ⟨[_, _, _, _, _, _], rfl, t, Ws ++ [r], _, _, _, _, by rw [List.map_append]; exact rfl, hb, by rw [List.length_append, hWl]; rfl, fun r' hr' => by
        rcases List.mem_append.mp hr' with q | q
        · exact hWs r' q
        · simp at q; subst q; exact hr⟩
  · rintro vs ⟨t, Ws, x, y, z, u, rfl, hb, hWl, hWs⟩
    have hWn : (2 ≤ Ws.length ∧ Ws.length ≤ 30) ∧ ((Ws.length : Nat) : Int) = 2 + m := by omega
    have hok : wantsOk Ws := ⟨by omega, hWs⟩
    walk_at "nf"
    refine .fr [] (fun j acc vs => vs = [] ∧ acc = (List.replicate j (none : Option Int)).map giD) ⟨[], rfl, rfl, rfl⟩ ?_ ?_
    · rintro j d acc vs hd ⟨rfl, rfl⟩
      walk_at "nf"
      refine ⟨fun _ => ?_, fun z => (nomatch z)⟩
      exact ⟨[], rfl, rfl, by rw [show [D.non] = [(none : Option Int)].map giD from rfl, ← List.map_append, ← List.replicate_succ']; exact rfl⟩
    rintro acc vs ⟨rfl, rfl⟩
    rw [List.length_map]
    walk_at "nf"
    refine ⟨_, Ws.length, by rw [hWn.2], hb, by omega, fun ks t3 hks hb3 => ?_⟩
    have hkl : ∀ k, k ∈ ks → k < Ws.length := fun k hk => List.mem_range.mp (hks.mem_iff.mp hk)
    have hgn : givenOk Ws (List.replicate Ws.length none) := by
      have e : ∀ (k : Nat) (x : Int), (List.replicate Ws.length (none : Option Int))[k]? ≠ some (some x) := fun k x hx => by
        rw [List.getElem?_replicate] at hx
        split at hx <;> cases hx
      exact ⟨by simp, fun k x hx => absurd hx (e k x), fun i j x hi => absurd hi (e i x)⟩
    refine .over ks (fun k => .int (k : Nat)) rfl [0, 4, 8, 9] (fun j vs => ∃ (t : T) (G : List (Option Int)) (x y : Option T), vs = [some t, x, some (.ow .lst (G.map giD)), y] ∧ IsBag t ∧ givenOk Ws G) ⟨[_, _, _, _], rfl, _, _, _, _, rfl, hb3, hgn⟩ ?_ ?_
    · rintro j k vs hk ⟨t, G, x, y, rfl, hb, hG⟩
      have hkW := hkl k (List.mem_of_getElem? hk)
      have hr : Ws[k]? = some Ws[k] := List.getElem?_eq_getElem hkW
      walk_at "nf"
      refine ⟨intsD Ws[k], at_of (by rw [List.getElem?_map, hr]; rfl), ?_⟩
      refine .over Ws[k] D.int rfl (fun v => (holder G v).isNone) D.int (fun m v hv => ?_) ?_
      · refine ⟨.inl (and_fl rfl fl_given), fun z => ⟨over_yes hv ?_, rfl⟩, fun z => ⟨over_no hv ?_, rfl⟩⟩
        · have z' : (!(G.map giD).any fun z => eqD z (.int v)) = true := z
          rw [any_given] at z'
          cases e : holder G v <;> simp [e] at z' ⊢
        · have z' : (!(G.map giD).any fun z => eqD z (.int v)) = false := z
          rw [any_given] at z'
          cases e : holder G v <;> simp [e] at z' ⊢
      have hfr : ∀ v, v ∈ (Ws[k].filter fun v => (holder G v).isNone) → v ∈ Ws[k] ∧ ∀ i : Nat, G[i]? ≠ some (some v) := fun v hv => by
        rw [List.mem_filter] at hv
        refine ⟨hv.1, ?_⟩
        cases e : holder G v with
        | none => exact fun i => holder_none e i
        | some q => rw [e] at hv; cases hv.2
      revert hfr
      generalize (Ws[k].filter fun v => (holder G v).isNone) = fr
      intro hfr
      have hl := hG.1
      walk_at "nf"
      refine ⟨.inr ⟨pl_ints, rfl⟩, fun z => ?_, fun z => ⟨fun z => (nomatch z), fun _ => ⟨[_, _, _, _], rfl, t, G, _, _, rfl, hb, hG⟩⟩⟩
      have hfn : fr ≠ [] := fun e => by subst e; cases z
      refine ⟨_, _, rfl, hb, by decide, by decide, fun o t6 o0 o1 hb6 => ?_⟩
      walk_at "nf"
      refine ⟨fun _ => ?_, fun _ => ⟨[_, _, _, _], rfl, t6, G, _, _, rfl, hb6, hG⟩⟩
      refine ⟨_, _, rfl, hb6, by decide, by decide, fun q t7 q0 q1 hb7 => ?_⟩
      have hfp := List.length_pos_iff.mpr hfn
      obtain ⟨v, hv, hat⟩ : ∃ v, v ∈ fr ∧ (atI (fr.map D.int) 0 = some (.int v)) := ⟨fr[0], List.getElem_mem hfp, at_int (by decide) (by rw [List.getElem?_map]; show (fr[0]?).map _ = _; rw [List.getElem?_eq_getElem hfp]; rfl)⟩
      obtain ⟨v2, hv2, hat2⟩ : ∃ v, v ∈ fr ∧ (atI (fr.map D.int) (-1) = some (.int v)) := ⟨fr[fr.length - 1]'(by omega), List.getElem_mem _, at_last (by rw [List.length_map, List.getElem?_map, List.getElem?_eq_getElem (by omega)]; rfl)⟩
      refine at_all (C := fun d => ∃ e : Int, d = .int e ∧ ∃ v, v ∈ fr ∧ atI (fr.map D.int) e = some (.int v)) q0 q1 ?_ ?_
      · intro d hd
        simp at hd
        rcases hd with rfl | rfl
        · exact ⟨_, rfl, v, hv, hat⟩
        · exact ⟨_, rfl, v2, hv2, hat2⟩
      rintro _ ⟨e, rfl, u, hu, hau⟩
      refine ⟨_, hau, ?_⟩
      refine ⟨rfl, k, by rw [List.length_map, ixN_of (by omega) (by omega)]; rfl, ?_⟩
      refine ⟨[_, _, _, _], rfl, t7, G.set k (some u), _, _, (by rw [List.map_set]; try exact rfl), hb7, given_set hG hr (hfr u hu).1 (hfr u hu).2⟩
    · rintro vs ⟨t, G, x, y, rfl, hb, hG⟩
      exact h Ws G t hok hG hb
theorem ok_chain (Df : DefAt K mg "_law_chain" s_chain ["_law_bag_here"]) (B : Bt mg) (C_mixed : Callee P w K mg base 2 "_law_mixed" ["_law_bag_here", "_law_many"] [0] mixedS) (C_take : Callee P w K mg base 1 "_law_take" ["_law_bag_here", "_law_many"] [0] takeS) : Callee P w K mg base 3 "_law_chain" ["_law_bag_here"] [0] drwS := by
  refine callee_of Df sc_chain (by decide) (by decide) fun f cdv A outer s H EX W hr hG tk hp => ?_
  refine ⟨_, (ss_cons (s_set 1 (q_add (q_int).p ((q_callC C_take tk (hr.mono (by decide)) hG (by rfl) (a_own 0 (a_cons q_int a_nil)) [0])).p) sc_chain.nd)
      (ss_cons (s_set 2 ((q_callC C_mixed tk (hr.mono (by decide)) hG (by rfl) (a_own 0 (a_cons (p_nm 1).val a_nil)) [0])).fz sc_chain.nd)
      (ss_cons (s_set 3 ((q_slice ((q_callC C_mixed tk (hr.mono (by decide)) hG (by rfl) (a_own 0 (a_cons q_int a_nil)) [0])).p o_none (o_some (p_nm 1).val))).fz sc_chain.nd)
      (ss_cons (s_setLcT 4 (own := [("_law_one", 5)]) rfl sc_chain.nd (i_list (p_nm 2).val) (blkOk_by (by rfl)) (fun _ _ _ _ _ => (g_name 5 sc_chain.nd)) (fun _ _ _ _ _ => ts_nil) (fun _ _ _ _ _ => (q_lst a_nil)))
      (ss_cons (s_setLc 6 (own := [("_law_one", 5)]) rfl sc_chain.nd (i_list (p_nm 2).val) (blkOk_by (by rfl)) (fun _ _ _ _ _ => (g_name 5 sc_chain.nd)) (fun _ _ _ _ _ => ts_nil) (fun _ _ _ _ _ => q_non))
      (ss_cons (s_for hp rfl (i_rng (by rfl) B.range (p_nm 1).val) (g_name 7 sc_chain.nd) (ss_cons (s_expr (q_appP 4 (p_ix (p_nm 4) ((q_ixA (hu65 hr) (p_nm 2) (p_nm 7))).p) (q_ixA (hu65 hr) (p_nm 3) (p_nm 7))))
      (ss_one (s_if (t_gt (p_nm 7) (q_int).p) (ss_cons (s_expr (q_appP 4 (p_ix (p_nm 4) ((q_ixA (hu65 hr) (p_nm 2) (p_nm 7))).p) (q_ixA (hu65 hr) (p_nm 3) ((q_sub (p_nm 7) (q_int).p)).p)))
      (ss_one (s_store 6 (q_ixA (hu65 hr) (p_nm 3) ((q_sub (p_nm 7) (q_int).p)).p) (q_ixA (hu65 hr) (p_nm 2) (p_nm 7))))) ss_nil))))
      (ss_cons (s_for hp rfl (i_rng (by rfl) B.range (q_callC C_take tk (hr.mono (by decide)) hG (by rfl) (a_own 0 (a_cons q_int a_nil)) [0])) (g_name 7 sc_chain.nd) (ss_cons (s_set 5 (q_ixA (hu65 hr) (p_nm 2) ((q_sub ((q_sub (p_nm 1) (q_int).p)).p ((q_callC C_take tk (hr.mono (by decide)) hG (by rfl) (a_own 0 (a_cons (p_nm 1).val a_nil)) [0])).p)).p) sc_chain.nd)
      (ss_cons (s_set 8 (q_ixA (hu65 hr) (p_nm 3) ((q_callC C_take tk (hr.mono (by decide)) hG (by rfl) (a_own 0 (a_cons (q_sub (p_nm 1) (q_int).p) a_nil)) [0])).p) sc_chain.nd)
      (ss_one (s_if (t_niA (hu65 hr) (p_nm 8) (p_ix (p_nm 4) (p_nm 5))) (ss_one (s_expr (q_appP 4 (p_ix (p_nm 4) (p_nm 5)) (p_nm 8).val))) ss_nil)))))
      (ss_cons (s_if (t_eq (hu65 hr) ((q_callC C_take tk (hr.mono (by decide)) hG (by rfl) (a_own 0 (a_cons q_int a_nil)) [0])).p (q_int).p) (ss_one (s_setLcT 4 (own := [("_law_some", 9)]) rfl sc_chain.nd (i_list (q_fzn 4)) (blkOk_by (by rfl)) (fun _ _ _ _ _ => (g_name 9 sc_chain.nd)) (fun _ _ _ _ _ => ts_nil) (fun _ _ _ _ _ => (q_lc (own := [("_law_right", 8)]) rfl sc_chain.nd (i_list (p_nm 9).val) (blkOk_by (by rfl)) (fun _ _ _ _ _ => (g_name 8 sc_chain.nd)) (fun _ _ _ _ _ => (ts_one (t_ne (hu65 hr) (p_nm 8) ((q_ixA (hu65 hr) (p_nm 3) ((q_neg (q_int).p)).p)).p))) (fun _ _ _ _ _ => (p_nm 8).val))))) ss_nil).cut
      (ss_one (s_ret (q_tupT (at_cons ((q_lc (own := [("_law_some", 9)]) rfl sc_chain.nd (i_list (q_fzn 4)) (blkOk_by (by rfl)) (fun _ _ _ _ _ => (g_name 9 sc_chain.nd)) (fun _ _ _ _ _ => ts_nil) (fun _ _ _ _ _ => ((q_sortI (by rfl) B.sorted (p_nm 9))).fz))).fz (at_cons (q_mvn 6) at_nil))))))))))))), fun args Q E hl h => ?_⟩
  clear hl hr hG tk hp W EX H s outer A cdv f Df B C_mixed C_take
  obtain ⟨t, rfl, hb, h⟩ := h
  walk_at "nf"
  refine ⟨_, _, rfl, hb, by decide, by decide, fun m t1 m0 m1 hb1 => ?_⟩
  walk_at "nf"
  obtain ⟨n, hn⟩ : ∃ n : Nat, 25 + m = (n : Int) := ⟨(25 + m).toNat, by omega⟩
  have hn2 : 25 ≤ n ∧ n ≤ 100 := by omega
  refine ⟨_, n, by rw [← hn], hb1, by omega, fun ls t2 hls hb2 => ?_⟩
  have hln : ls.Nodup := hls.nodup_iff.mpr List.nodup_range
  have hll : ls.length = n := by rw [hls.length_eq]; simp
  have hlm : ∀ i, i ∈ ls → i < n := fun i hi => List.mem_range.mp (hls.mem_iff.mp hi)
  have ixl : ∀ {p i : Nat}, ls[p]? = some i → atI (ls.map fun k => D.int (k : Nat)) (p : Nat) = some (.int (i : Nat)) := fun {p i} h => at_of (by rw [List.getElem?_map, h]; rfl)
  have luni : ∀ {p q i : Nat}, ls[p]? = some i → ls[q]? = some i → p = q := fun {p q i} h1 h2 => by
    obtain ⟨_, ea⟩ := List.getElem?_eq_some_iff.mp h1
    obtain ⟨_, eb⟩ := List.getElem?_eq_some_iff.mp h2
    exact (List.getElem_inj hln).mp (ea.trans eb.symm)
  walk_at "nf"
  refine ⟨_, 100, rfl, hb2, by decide, fun ks t3 hks hb3 => ?_⟩
  obtain ⟨row, hrow⟩ : ∃ row : List Int, row = (ks.map fun k => ((k : Nat) : Int)).take n := ⟨_, rfl⟩
  have hkl : ks.length = 100 := by rw [hks.length_eq]; simp
  have hrl : row.length = n := by rw [hrow, List.length_take, List.length_map]; omega
  have hcut : cutL (ks.map fun k => D.int (k : Nat)) none (some (25 + m)) = row.map .int := by
    rw [hn, cut_take (by omega), hrow, ← List.map_take, ← List.map_take, List.map_map]; rfl
  have hkn : ks.Nodup := hks.nodup_iff.mpr List.nodup_range
  have hrb : ∀ x, x ∈ row → 0 ≤ x ∧ x < 200 := fun x hx => by
    rw [hrow] at hx
    obtain ⟨k, hk, rfl⟩ := List.mem_map.mp (List.mem_of_mem_take hx)
    have := List.mem_range.mp (hks.mem_iff.mp hk)
    omega
  have hrn : row.Nodup := by
    rw [hrow]
    refine List.Nodup.sublist (List.take_sublist _ _) ?_
    exact List.pairwise_map.mpr (hkn.imp fun h e => h (by omega))
  walk_at "nf"
  walk_at "w"
  rw [hcut]
  refine .fr [] (fun j acc vs => vs = [] ∧ acc = List.replicate j (rowT [])) ⟨[], rfl, rfl, rfl⟩ ?_ ?_
  · rintro j d acc vs hd ⟨rfl, rfl⟩
    walk_at "nf"
    refine ⟨fun _ => ?_, fun z => (nomatch z)⟩
    exact ⟨[], rfl, rfl, by rw [show T.ow Kd.lst [] = rowT [] from rfl]; exact (List.replicate_succ' ..).symm⟩
  rintro acc vs ⟨rfl, rfl⟩
  walk_at "nf"
  refine .fr [] (fun j acc vs => vs = [] ∧ acc = (List.replicate j (none : Option Int)).map giD) ⟨[], rfl, rfl, rfl⟩ ?_ ?_
  · rintro j d acc vs hd ⟨rfl, rfl⟩
    walk_at "nf"
    refine ⟨fun _ => ?_, fun z => (nomatch z)⟩
    exact ⟨[], rfl, rfl, by rw [show [D.non] = [(none : Option Int)].map giD from rfl, ← List.map_append, ← List.replicate_succ']; exact rfl⟩
  rintro acc vs ⟨rfl, rfl⟩
  rw [id, List.length_map, hll]
  walk_at "nf"
  refine ⟨szI (by omega), by omega, ?_⟩
  have hWs0 : T.nd .lst (List.replicate n (rowT [])) = T.nd .lst ((List.replicate n ([] : List Int)).map rowT) := by rw [List.map_replicate]
  rw [hWs0]
  refine .fr [4, 6, 7] (fun j vs => ∃ (Ws : List (List Int)) (G : List (Option Int)) (x : Option T), vs = [some (.nd .lst (Ws.map rowT)), some (.ow .lst (G.map giD)), x] ∧ Ws.length = n ∧ G.length = n ∧ (∀ (i : Nat) (r : List Int), Ws[i]? = some r → r.Nodup ∧ r.length ≤ 2 ∧ (∀ x, x ∈ r → x ∈ row) ∧ ∀ p, ls[p]? = some i → j ≤ p → r = []) ∧ ∀ (i : Nat) (x : Int), G[i]? = some (some x) → ∃ p, ls[p + 1]? = some i ∧ p + 1 < j ∧ row[p]? = some x ∧ ∃ r, Ws[i]? = some r ∧ x ∈ r) ⟨[_, _, _], rfl, List.replicate n [], List.replicate n none, _, rfl, by simp, by simp, ?_, ?_⟩ ?_ ?_
  · intro i r hr
    rw [List.getElem?_replicate] at hr
    split at hr
    · cases hr
      exact ⟨by simp, by simp, by simp, fun _ _ _ => rfl⟩
    · cases hr
  · intro i x hx
    rw [List.getElem?_replicate] at hx
    split at hx <;> cases hx
  · rintro j d vs hd ⟨Ws, G, x, rfl, hW1, hG1, hW2, hG2⟩
    obtain ⟨hj, rfl⟩ := rngD_get hd
    have hj : j < n := by omega
    obtain ⟨i, hi⟩ : ∃ i : Nat, ls[j]? = some i := ⟨_, List.getElem?_eq_getElem (by omega)⟩
    have hin := hlm i (List.mem_of_getElem? hi)
    have hix := ixl hi
    have hr0 : j < row.length := by omega
    have hrj : row[j]? = some row[j] := List.getElem?_eq_getElem hr0
    have hatr : atI (row.map D.int) (j : Nat) = some (.int row[j]) := at_of (by rw [List.getElem?_map, hrj]; rfl)
    obtain ⟨r, hr⟩ : ∃ r, Ws[i]? = some r := ⟨_, List.getElem?_eq_getElem (by omega)⟩
    have hre : r = [] := (hW2 i r hr).2.2.2 j hi (Nat.le_refl _)
    subst hre
    rw [show (0 + (j : Int)) = (j : Int) by omega]
    have hgt : (Ws.map rowT)[i]? = some (rowT []) := by rw [List.getElem?_map, hr]; rfl
    have eput : T.put (T.nd .lst (Ws.map rowT)) ([] ++ [i]) (T.ow .lst (([] : List Int).map D.int ++ [D.int row[j]])) = .nd .lst ((Ws.set i [row[j]]).map rowT) := by
      rw [put_one hgt, List.map_set]; rfl
    walk_at "nf"
    refine ⟨.int (i : Nat), hix, i, by rw [List.length_map, hW1, ixN_of (by omega) (by omega)]; rfl, rowT [], hgt, rfl, .int row[j], hatr, szL (by simp), ?_⟩
    dsimp only
    rw [eput]
    obtain ⟨Ws1, hWs1⟩ : ∃ Ws1, Ws1 = Ws.set i [row[j]] := ⟨_, rfl⟩
    have hl1 : Ws1.length = n := by rw [hWs1, List.length_set]; exact hW1
    have hr1 : Ws1[i]? = some [row[j]] := by rw [hWs1]; exact List.getElem?_set_self (by omega)
    have hr1o : ∀ i' : Nat, i' ≠ i → Ws1[i']? = Ws[i']? := fun i' e => by rw [hWs1]; exact List.getElem?_set_ne (fun z => e z.symm)
    have hgt1 : (Ws1.map rowT)[i]? = some (rowT [row[j]]) := by rw [List.getElem?_map, hr1]; rfl
    rw [← hWs1]
    have hmr : row[j] ∈ row := List.getElem_mem _
    walk_at "nf"
    refine ⟨fun z => ?_, fun z => ?_⟩
    · have hj0 : 0 < j := by simpa using z
      have hr2 : j - 1 < row.length := by omega
      have hat2 : atI (row.map D.int) ((j : Int) - 1) = some (.int row[j - 1]) := by
        rw [show ((j : Int) - 1) = ((j - 1 : Nat) : Int) by omega]
        exact at_of (by rw [List.getElem?_map, List.getElem?_eq_getElem hr2]; rfl)
      have hne : ¬ row[j] = row[j - 1] := fun e => by
        have := (List.getElem_inj hrn).mp e
        omega
      have eput2 : T.put (T.nd .lst (Ws1.map rowT)) ([] ++ [i]) (T.ow .lst (([row[j]] : List Int).map D.int ++ [D.int row[j - 1]])) = .nd .lst ((Ws1.set i [row[j], row[j - 1]]).map rowT) := by
        rw [put_one hgt1, List.map_set]; rfl
      refine ⟨.int (i : Nat), hix, i, by rw [List.length_map, hl1, ixN_of (by omega) (by omega)]; rfl, rowT [row[j]], hgt1, rfl, .int row[j - 1], hat2, szL (by simp), ?_⟩
      dsimp only
      rw [eput2]
      walk_at "nf"
      refine ⟨.int row[j - 1], hat2, rfl, .int (i : Nat), hix, i, by rw [List.length_map, hG1, ixN_of (by omega) (by omega)]; rfl, ?_⟩
      refine ⟨[_, _, _], rfl, Ws1.set i [row[j], row[j - 1]], G.set i (some row[j - 1]), some (.fz (.int (j : Int))), (by rw [List.map_set (f := giD)]; try exact rfl), by rw [List.length_set]; exact hl1, by rw [List.length_set]; exact hG1, fun i' r hr' => ?_, fun i' x hx => ?_⟩
      · by_cases e : i' = i
        · subst e
          rw [List.getElem?_set_self (by omega)] at hr'
          cases hr'
          refine ⟨by simp; exact hne, by simp, fun x hx => ?_, fun p hp hpj => ?_⟩
          · simp at hx
            rcases hx with rfl | rfl <;> exact List.getElem_mem _
          · have := luni hp hi; omega
        · rw [List.getElem?_set_ne (fun z => e z.symm), hr1o i' e] at hr'
          obtain ⟨h1, h2, h3, h4⟩ := hW2 i' r hr'
          exact ⟨h1, h2, h3, fun p hp hpj => h4 p hp (by omega)⟩
      · by_cases e : i' = i
        · subst e
          rw [List.getElem?_set_self (by omega)] at hx
          cases hx
          exact ⟨j - 1, by rw [show j - 1 + 1 = j by omega]; exact hi, by omega, List.getElem?_eq_getElem hr2, _, List.getElem?_set_self (by omega), by simp⟩
        · rw [List.getElem?_set_ne (fun z => e z.symm)] at hx
          obtain ⟨p, h1, h2, h3, r, h4, h5⟩ := hG2 i' x hx
          exact ⟨p, h1, by omega, h3, r, by rw [List.getElem?_set_ne (fun z => e z.symm), hr1o i' e]; exact h4, h5⟩
    · have hj0 : j = 0 := by
        have : ¬ (0 : Int) < (j : Int) := by simpa using z
        omega
      refine ⟨[_, _, _], rfl, Ws1, G, some (.fz (.int (j : Int))), rfl, hl1, hG1, fun i' r hr' => ?_, fun i' x hx => ?_⟩
      · by_cases e : i' = i
        · subst e
          rw [hr1] at hr'
          cases hr'
          refine ⟨by simp, by simp, fun x hx => ?_, fun p hp hpj => ?_⟩
          · simp at hx
            subst hx
            exact hmr
          · have := luni hp hi; omega
        · rw [hr1o i' e] at hr'
          obtain ⟨h1, h2, h3, h4⟩ := hW2 i' r hr'
          exact ⟨h1, h2, h3, fun p hp hpj => h4 p hp (by omega)⟩
      · obtain ⟨p, h1, h2, _⟩ := hG2 i' x hx
        omega
  · rintro vs ⟨Ws, G, x, rfl, hW1, hG1, hW2, hG2⟩
    rw [rngD_len] at hW2 hG2
    have hnl : Int.toNat (25 + m) = n := by omega
    rw [hnl] at hW2 hG2
    walk_at "nf"
    refine ⟨_, _, rfl, hb3, by decide, by decide, fun q t4 q0 q1 hb4 => ?_⟩
    walk_at "nf"
    refine ⟨szI (by omega), by omega, ?_⟩
    refine .fr [0, 4, 5, 7, 8] (fun j vs => ∃ t, ∃ Ws : List (List Int), ∃ x a b, vs = [some t, some (.nd .lst (Ws.map rowT)), x, a, b] ∧ IsBag t ∧ Ws.length = n ∧ (∀ (i : Nat) (r : List Int), Ws[i]? = some r → r.Nodup ∧ r.length ≤ 2 + j ∧ ∀ x, x ∈ r → x ∈ row) ∧ ∀ (i : Nat) (x : Int), G[i]? = some (some x) → ∃ r, Ws[i]? = some r ∧ x ∈ r) ⟨[_, _, _, _, _], rfl, _, Ws, _, _, _, rfl, hb4, hW1, fun i r hr => ?_, fun i x hx => ?_⟩ ?_ ?_
    · obtain ⟨h1, h2, h3, _⟩ := hW2 i r hr
      exact ⟨h1, h2, h3⟩
    · obtain ⟨p, h1, h2, h3, r, h4, h5⟩ := hG2 i x hx
      exact ⟨r, h4, h5⟩
    · rintro j d vs hd ⟨t, Ws, x, a, b, rfl, hb, hW1, hW2, hG3⟩
      obtain ⟨hj, rfl⟩ := rngD_get hd
      walk_at "nf"
      refine ⟨_, _, rfl, hb, by omega, by omega, fun o t5 o0 o1 hb5 => ?_⟩
      obtain ⟨p, hp⟩ : ∃ p : Nat, 25 + m - 1 - o = (p : Int) := ⟨(25 + m - 1 - o).toNat, by omega⟩
      obtain ⟨i, hi⟩ : ∃ i : Nat, ls[p]? = some i := ⟨_, List.getElem?_eq_getElem (by omega)⟩
      have hin := hlm i (List.mem_of_getElem? hi)
      have hix := ixl hi
      refine ⟨.int (i : Nat), by rw [hp]; exact hix, ?_⟩
      walk_at "nf"
      refine ⟨_, _, rfl, hb5, by omega, by omega, fun u t6 u0 u1 hb6 => ?_⟩
      obtain ⟨d, hd, hm⟩ := at_lt (ds := row.map D.int) u0 (by rw [List.length_map, hrl]; omega)
      obtain ⟨v, hv, rfl⟩ := List.mem_map.mp hm
      refine ⟨_, hd, ?_⟩
      walk_at "nf"
      obtain ⟨r, hr⟩ : ∃ r, Ws[i]? = some r := ⟨_, List.getElem?_eq_getElem (by omega)⟩
      obtain ⟨w1, w2, w3⟩ := hW2 _ r hr
      have hgt : (Ws.map rowT)[i]? = some (rowT r) := by rw [List.getElem?_map, hr]; rfl
      refine ⟨i, by rw [List.length_map, hW1, ixN_of (by omega) (by omega)]; rfl, rowT r, hgt, .inl ?_, fun z => ?_, fun z => ?_⟩
      · simp [flD, T.d]
      · refine ⟨i, by rw [List.length_map, hW1, ixN_of (by omega) (by omega)]; rfl, rowT r, hgt, rfl, ?_⟩
        have hvn : v ∉ r := fun hq => by
          simp [T.d, eqD] at z
          exact z v hq rfl
        have eput : T.put (T.nd .lst (Ws.map rowT)) ([] ++ [i]) (T.ow .lst (r.map D.int ++ [D.int v])) = .nd .lst ((Ws.set i (r ++ [v])).map rowT) := by
          rw [put_one hgt, List.map_set]
          show _ = T.nd Kd.lst ((Ws.map rowT).set i (T.ow .lst ((r ++ [v]).map D.int)))
          rw [List.map_append]; rfl
        refine ⟨by rw [List.length_map]; exact Nat.lt_of_le_of_lt (show r.length ≤ 20 by omega) (by decide), ?_⟩
        refine ⟨[_, _, _, _, _], rfl, _, Ws.set i (r ++ [v]), _, _, _, by rw [← eput]; try exact rfl, hb6, by rw [List.length_set]; exact hW1, fun i' r' hr' => ?_, fun i' x hx => ?_⟩
        · by_cases e : i' = i
          · subst e
            rw [List.getElem?_set_self (by omega)] at hr'
            cases hr'
            refine ⟨List.nodup_append.mpr ⟨w1, by simp, fun a ha b hb' e => ?_⟩, by simp; omega, fun x hx => ?_⟩
            · simp at hb'
              subst hb'
              subst e
              exact hvn ha
            · rcases List.mem_append.mp hx with hx | hx
              · exact w3 x hx
              · simp at hx; subst hx; exact hv
          · rw [List.getElem?_set_ne (fun z => e z.symm)] at hr'
            obtain ⟨h1, h2, h3⟩ := hW2 i' r' hr'
            exact ⟨h1, by omega, h3⟩
        · obtain ⟨r', h1, h2⟩ := hG3 i' x hx
          by_cases e : i' = i
          · subst e
            rw [hr] at h1
            cases h1
            exact ⟨_, List.getElem?_set_self (by omega), List.mem_append_left _ h2⟩
          · exact ⟨r', by rw [List.getElem?_set_ne (fun z => e z.symm)]; exact h1, h2⟩
      · exact ⟨[_, _, _, _, _], rfl, _, Ws, _, _, _, rfl, hb6, hW1, fun i r hr => by obtain ⟨h1, h2, h3⟩ := hW2 i r hr; exact ⟨h1, by omega, h3⟩, hG3⟩
    · rintro vs ⟨t, Ws, x, a, b, rfl, hb, hW1, hW2, hG3⟩
      walk_at "nf"
      simp only [rngD_len] at hW2
      refine .fr [0, 4] (fun vs => ∃ (t : T) (Ws : List (List Int)), vs = [some t, some (.nd .lst (Ws.map rowT))] ∧ IsBag t ∧ Ws.length = n ∧ (∀ (i : Nat) (r : List Int), Ws[i]? = some r → r.Nodup ∧ r.length ≤ 20 ∧ ∀ x, x ∈ r → x ∈ row) ∧ ∀ (i : Nat) (x : Int), G[i]? = some (some x) → ∃ r, Ws[i]? = some r ∧ x ∈ r) ?_ ?_
      · walk_at "nf"
        refine ⟨_, _, rfl, hb, by decide, by decide, fun q2 t5 q20 q21 hb5 => ?_⟩
        walk_at "nf"
        refine ⟨.inl rfl, fun z => ?_, fun z => ?_⟩
        · walk_at "nf"
          have hdw : Tsd (Ws.map rowT) = Ws.map intsD := by
            rw [tsd_map, List.map_map]; rfl
          walk_at "w"
          rw [hdw]
          obtain ⟨last, hlast⟩ : ∃ last, row[n - 1]? = some last := ⟨_, List.getElem?_eq_getElem (by omega)⟩
          refine .fr [] (fun j acc vs => vs = [] ∧ acc = ((Ws.take j).map fun r => r.filter fun v => v != last).map rowT) ⟨[], rfl, rfl, rfl⟩ ?_ ?_
          · rintro j d acc vs hd ⟨rfl, rfl⟩
            dsimp only [id] at hd
            rw [List.getElem?_map] at hd
            obtain ⟨r, hr, rfl⟩ := Option.map_eq_some_iff.mp hd
            walk_at "nf"
            refine ⟨fun _ => ?_, fun z => (nomatch z)⟩
            refine .over r D.int rfl (fun v => v != last) D.int (fun j v hj => ?_) ?_
            · refine ⟨.int last, at_last (by rw [List.length_map, hrl, List.getElem?_map, hlast]; rfl), .inl rfl, fun z => ?_, fun z => ?_⟩
              · exact ⟨over_yes hj (by simpa [eqD, T.d] using z), rfl⟩
              · exact ⟨over_no hj (by simpa [eqD, T.d] using z), rfl⟩
            exact ⟨[], rfl, rfl, by rw [List.take_succ, hr, Option.toList_some, List.map_append, List.map_append]; rfl⟩
          · rintro acc vs ⟨rfl, rfl⟩
            dsimp only [id]
            rw [List.length_map, List.take_length]
            walk_at "nf"
            refine ⟨[_, _], rfl, t5, Ws.map fun r => r.filter fun v => v != last, rfl, hb5, by rw [List.length_map]; exact hW1, fun i r hr => ?_, fun i x hx => ?_⟩
            · rw [List.getElem?_map] at hr
              obtain ⟨r0, hr0, rfl⟩ := Option.map_eq_some_iff.mp hr
              obtain ⟨w1, w2, w3⟩ := hW2 i r0 hr0
              exact ⟨w1.filter _, Nat.le_trans (List.length_filter_le _ _) (by omega), fun x hx => w3 x (List.mem_filter.mp hx).1⟩
            · obtain ⟨r, hr, hxr⟩ := hG3 i x hx
              refine ⟨_, by rw [List.getElem?_map, hr]; rfl, List.mem_filter.mpr ⟨hxr, ?_⟩⟩
              obtain ⟨p, a1, _, a3, _⟩ := hG2 i x hx
              have hp : p + 1 < ls.length := (List.getElem?_eq_some_iff.mp a1).1
              simp only [bne_iff_ne, ne_eq]
              intro e
              obtain ⟨_, ea⟩ := List.getElem?_eq_some_iff.mp a3
              obtain ⟨_, eb⟩ := List.getElem?_eq_some_iff.mp hlast
              have := (List.getElem_inj hrn).mp (ea.trans (e.trans eb.symm))
              omega
        · exact ⟨[_, _], rfl, _, Ws, rfl, hb5, hW1, fun i r hr => by obtain ⟨h1, h2, h3⟩ := hW2 i r hr; exact ⟨h1, by omega, h3⟩, hG3⟩
      · rintro vs ⟨t, Ws, rfl, hb, hW1, hW2, hG3⟩
        walk_at "nf"
        have hdw : Tsd (Ws.map rowT) = Ws.map intsD := by
          rw [tsd_map, List.map_map]; rfl
        walk_at "w"
        rw [hdw]
        refine .fr [] (fun j acc vs => vs = [] ∧ ∃ W2 : List (List Int), acc = W2.map intsD ∧ W2.length = j ∧ ∀ (i : Nat) (r : List Int), W2[i]? = some r → rowOk r ∧ ∀ r', Ws[i]? = some r' → ∀ x, x ∈ r' → x ∈ r) ⟨[], rfl, rfl, [], rfl, rfl, by simp⟩ ?_ ?_
        · rintro j d acc vs hd ⟨rfl, W2, rfl, hl2, hW⟩
          dsimp only [id] at hd
          rw [List.getElem?_map] at hd
          obtain ⟨r, hr, rfl⟩ := Option.map_eq_some_iff.mp hd
          obtain ⟨w1, w2, w3⟩ := hW2 _ r hr
          walk_at "nf"
          refine ⟨fun _ => ?_, fun z => (nomatch z)⟩
          refine ⟨r, rfl, fun ms hp hs => ?_⟩
          have hms : ms.Nodup := hp.nodup_iff.mpr w1
          have hlt : ms.Pairwise (· < ·) := by
            have := List.Pairwise.and hs hms
            exact this.imp fun ⟨a, b⟩ => by omega
          refine ⟨[], rfl, rfl, W2 ++ [ms], by rw [List.map_append]; rfl, by simp [hl2], fun i r' hr' => ?_⟩
          rcases Nat.lt_or_ge i W2.length with z | z
          · rw [List.getElem?_append_left z] at hr'; exact hW i r' hr'
          · rw [List.getElem?_append_right z] at hr'
            have e0 : i - W2.length = 0 := by
              rcases Nat.eq_zero_or_pos (i - W2.length) with e | e
              · exact e
              · rw [List.getElem?_eq_none (by rw [List.length_singleton]; exact e)] at hr'; cases hr'
            rw [e0] at hr'
            cases hr'
            refine ⟨⟨hlt, fun x hx => hrb x (w3 x (hp.mem_iff.mp hx)), by rw [hp.length_eq]; omega⟩, fun r'' hr'' x hx => ?_⟩
            have ei : i = j := by omega
            subst ei
            rw [hr] at hr''
            cases hr''
            exact hp.mem_iff.mpr hx
        · rintro acc vs ⟨rfl, W2, rfl, hl2, hW⟩
          dsimp only [id] at hl2
          rw [List.length_map] at hl2
          walk_at "nf"
          refine h W2 G t ⟨⟨by omega, by omega⟩, fun r hr => ?_⟩ ⟨by omega, fun i x hx => ?_, fun i j x hi hj => ?_⟩ hb
          · obtain ⟨i, hi⟩ := List.getElem?_of_mem hr
            exact (hW i r hi).1
          · obtain ⟨r, hr, hx2⟩ := hG3 i x hx
            have hi2 : i < W2.length := by have := (List.getElem?_eq_some_iff.mp hr).1; omega
            exact ⟨W2[i], List.getElem?_eq_getElem hi2, (hW i _ (List.getElem?_eq_getElem hi2)).2 r hr x hx2⟩
          · obtain ⟨p, a1, a2, a3, _⟩ := hG2 i x hi
            obtain ⟨q, b1, b2, b3, _⟩ := hG2 j x hj
            obtain ⟨_, ea⟩ := List.getElem?_eq_some_iff.mp a3
            obtain ⟨_, eb⟩ := List.getElem?_eq_some_iff.mp b3
            have epq := (List.getElem_inj hrn).mp (ea.trans eb.symm)
            subst epq
            rw [a1] at b1
            exact Option.some.inj b1
theorem ok_star (Df : DefAt K mg "_law_star" s_star ["_law_bag_here"]) (B : Bt mg) (C_mixed : Callee P w K mg base 2 "_law_mixed" ["_law_bag_here", "_law_many"] [0] mixedS) (C_take : Callee P w K mg base 1 "_law_take" ["_law_bag_here", "_law_many"] [0] takeS) : Callee P w K mg base 3 "_law_star" ["_law_bag_here"] [0] drwS := by
  refine callee_of Df sc_star (by decide) (by decide) fun f cdv A outer s H EX W hr hG tk hp => ?_
  refine ⟨_, (ss_cons (s_set 1 (q_add (q_int).p ((q_callC C_take tk (hr.mono (by decide)) hG (by rfl) (a_own 0 (a_cons q_int a_nil)) [0])).p) sc_star.nd)
      (ss_cons (s_set 2 ((q_callC C_mixed tk (hr.mono (by decide)) hG (by rfl) (a_own 0 (a_cons (p_nm 1).val a_nil)) [0])).fz sc_star.nd)
      (ss_cons (s_setLcT 3 (own := [("_law_one", 4)]) rfl sc_star.nd (i_list (p_nm 2).val) (blkOk_by (by rfl)) (fun _ _ _ _ _ => (g_name 4 sc_star.nd)) (fun _ _ _ _ _ => ts_nil) (fun _ _ _ _ _ => (q_lst a_nil)))
      (ss_cons (s_setLc 5 (own := [("_law_one", 4)]) rfl sc_star.nd (i_list (p_nm 2).val) (blkOk_by (by rfl)) (fun _ _ _ _ _ => (g_name 4 sc_star.nd)) (fun _ _ _ _ _ => ts_nil) (fun _ _ _ _ _ => q_non))
      (ss_cons (s_storeP 3 (q_lrng rfl (by rfl) B.list (by rfl) B.range (q_sub (p_nm 1) (q_int).p)) (p_nm 3) (q_ixA (hu65 hr) (p_nm 2) (q_int).p))
      (ss_cons (s_for hp rfl (i_rng2 (by rfl) B.range q_int (p_nm 1).val) (g_name 6 sc_star.nd) (ss_cons (s_storeP 3 (q_lst (a_cons (q_sub (p_nm 6) (q_int).p) a_nil)) (p_nm 3) (q_ixA (hu65 hr) (p_nm 2) (p_nm 6)))
      (ss_one (s_store 5 (q_sub (p_nm 6) (q_int).p) (q_ixA (hu65 hr) (p_nm 2) (p_nm 6))))))
      (ss_cons (s_for hp rfl (i_rng (by rfl) B.range (q_callC C_take tk (hr.mono (by decide)) hG (by rfl) (a_own 0 (a_cons q_int a_nil)) [0])) (g_name 6 sc_star.nd) (ss_cons (s_set 4 (q_ixA (hu65 hr) (p_nm 2) ((q_add (q_int).p ((q_callC C_take tk (hr.mono (by decide)) hG (by rfl) (a_own 0 (a_cons (q_sub (p_nm 1) (q_int).p) a_nil)) [0])).p)).p) sc_star.nd)
      (ss_one (s_if (t_niA (hu65 hr) (q_int).p (p_ix (p_nm 3) (p_nm 4))) (ss_one (s_expr (q_appP 3 (p_ix (p_nm 3) (p_nm 4)) q_int))) ss_nil))))
      (ss_one (s_ret (q_tupT (at_cons (q_fzn 3) (at_cons (q_mvn 5) at_nil)))))))))))), fun args Q E hl h => ?_⟩
  clear hl hr hG tk hp W EX H s outer A cdv f Df B C_mixed C_take
  obtain ⟨t, rfl, hb, h⟩ := h
  walk_at "nf"
  refine ⟨_, _, rfl, hb, by decide, by decide, fun m t1 m0 m1 hb1 => ?_⟩
  walk_at "nf"
  obtain ⟨n, hn⟩ : ∃ n : Nat, 31 + m = (n : Int) := ⟨(31 + m).toNat, by omega⟩
  have hn2 : 31 ≤ n ∧ n ≤ 99 := by omega
  refine ⟨_, n, by rw [← hn], hb1, by omega, fun ls t2 hls hb2 => ?_⟩
  have hln : ls.Nodup := hls.nodup_iff.mpr List.nodup_range
  have hll : ls.length = n := by rw [hls.length_eq]; simp
  have hlm : ∀ i, i ∈ ls → i < n := fun i hi => List.mem_range.mp (hls.mem_iff.mp hi)
  walk_at "nf"
  refine .fr [] (fun j acc vs => vs = [] ∧ acc = List.replicate j (rowT [])) ⟨[], rfl, rfl, rfl⟩ ?_ ?_
  · rintro j d acc vs hd ⟨rfl, rfl⟩
    walk_at "nf"
    refine ⟨fun _ => ?_, fun z => (nomatch z)⟩
    exact ⟨[], rfl, rfl, by rw [show T.ow Kd.lst [] = rowT [] from rfl]; exact (List.replicate_succ' ..).symm⟩
  rintro acc vs ⟨rfl, rfl⟩
  walk_at "nf"
  refine .fr [] (fun j acc vs => vs = [] ∧ acc = (List.replicate j (none : Option Int)).map giD) ⟨[], rfl, rfl, rfl⟩ ?_ ?_
  · rintro j d acc vs hd ⟨rfl, rfl⟩
    walk_at "nf"
    refine ⟨fun _ => ?_, fun z => (nomatch z)⟩
    exact ⟨[], rfl, rfl, by rw [show [D.non] = [(none : Option Int)].map giD from rfl, ← List.map_append, ← List.replicate_succ']; exact rfl⟩
  rintro acc vs ⟨rfl, rfl⟩
  rw [id, List.length_map, hll]
  walk_at "nf"
  refine ⟨by omega, szI (by omega), ?_⟩
  obtain ⟨i0, hi0⟩ : ∃ i0, ls[0]? = some i0 := ⟨_, List.getElem?_eq_getElem (by omega)⟩
  have hi0n := hlm i0 (List.mem_of_getElem? hi0)
  refine ⟨rfl, .int (i0 : Nat), at_int (by decide) (by rw [List.getElem?_map]; show (ls[0]?).map _ = _; rw [hi0]; rfl), ?_⟩
  refine ⟨i0, by rw [List.length_replicate, ixN_of (by omega) (by omega)]; rfl, ?_⟩
  obtain ⟨R0, hR0⟩ : ∃ R0 : List Int, R0 = (List.range (n - 1)).map fun i => ((i : Nat) : Int) := ⟨_, rfl⟩
  have hR0d : (T.ow .lst (rngD 0 (Int.toNat (31 + m - 1))) : T) = rowT R0 := by
    rw [show Int.toNat (31 + m - 1) = n - 1 by omega, rngI, hR0]
  have hWs0 : ((T.nd .lst (List.replicate n (rowT []))).put [] (T.nd .lst ((List.replicate n (rowT [])).set i0 (T.ow .lst (rngD 0 (Int.toNat (31 + m - 1))))))) = T.nd .lst (((List.replicate n ([] : List Int)).set i0 R0).map rowT) := by
    rw [hR0d, List.map_set, List.map_replicate]; rfl
  have ixl : ∀ {p i : Nat}, ls[p]? = some i → atI (ls.map fun k => D.int (k : Nat)) (p : Nat) = some (.int (i : Nat)) := fun {p i} h => at_of (by rw [List.getElem?_map, h]; rfl)
  have luni : ∀ {p q i : Nat}, ls[p]? = some i → ls[q]? = some i → p = q := fun {p q i} h1 h2 => by
    obtain ⟨_, ea⟩ := List.getElem?_eq_some_iff.mp h1
    obtain ⟨_, eb⟩ := List.getElem?_eq_some_iff.mp h2
    exact (List.getElem_inj hln).mp (ea.trans eb.symm)
  refine ⟨by decide, by decide, by omega, by omega, szI (by omega), ?_⟩
  refine .fr [3, 5, 6] (fun j vs => ∃ (Ws : List (List Int)) (G : List (Option Int)) (x : Option T), vs = [some (.nd .lst (Ws.map rowT)), some (.ow .lst (G.map giD)), x] ∧ Ws.length = n ∧ G.length = n ∧ ∀ (p i : Nat), ls[p]? = some i → (p = 0 → Ws[i]? = some R0 ∧ G[i]? = some none) ∧ (0 < p → p ≤ j → Ws[i]? = some [((p : Nat) : Int) - 1] ∧ G[i]? = some (some (((p : Nat) : Int) - 1))) ∧ (j < p → G[i]? = some none ∧ Ws[i]? = some [])) ⟨[_, _, _], rfl, (List.replicate n []).set i0 R0, List.replicate n none, _, (by rw [← hWs0]), by simp, by simp, fun p i hp => ?_⟩ ?_ ?_
  · have hin := hlm i (List.mem_of_getElem? hp)
    refine ⟨fun e => ?_, fun a b => by omega, fun a => ?_⟩
    · subst e
      rw [hi0] at hp
      cases hp
      exact ⟨List.getElem?_set_self (by simpa using hin), by rw [List.getElem?_replicate, if_pos hin]⟩
    · have : i ≠ i0 := fun e => by subst e; have := luni hp hi0; omega
      exact ⟨by rw [List.getElem?_replicate, if_pos hin], by rw [List.getElem?_set_ne (fun z => this z.symm), List.getElem?_replicate, if_pos hin]⟩
  · rintro j d vs hd ⟨Ws, G, x, rfl, hW1, hG1, hI⟩
    obtain ⟨hj, rfl⟩ := rngD_get hd
    have hj : j + 1 < n := by omega
    obtain ⟨i, hi⟩ : ∃ i : Nat, ls[j + 1]? = some i := ⟨_, List.getElem?_eq_getElem (by omega)⟩
    have hin := hlm i (List.mem_of_getElem? hi)
    have hix := ixl hi
    rw [show (1 + (j : Int)) = ((j + 1 : Nat) : Int) by omega]
    walk_at "nf"
    refine ⟨rfl, .int (i : Nat), hix, i, by rw [List.length_map, hW1, ixN_of (by omega) (by omega)]; rfl, ?_⟩
    walk_at "nf"
    refine ⟨rfl, .int (i : Nat), hix, i, by rw [List.length_map, hG1, ixN_of (by omega) (by omega)]; rfl, ?_⟩
    have eput : T.put (T.nd .lst (Ws.map rowT)) [] (T.nd .lst ((Ws.map rowT).set i (T.ow .lst [D.int (((j + 1 : Nat) : Int) - 1)]))) = .nd .lst ((Ws.set i [((j + 1 : Nat) : Int) - 1]).map rowT) := by
      rw [List.map_set]; rfl
    refine ⟨[_, _, _], rfl, Ws.set i [((j + 1 : Nat) : Int) - 1], G.set i (some (((j + 1 : Nat) : Int) - 1)), some (.fz (.int ((j + 1 : Nat) : Int))), ?_, by rw [List.length_set]; exact hW1, by rw [List.length_set]; exact hG1, fun p i' hp => ?_⟩
    · rw [List.map_set (f := giD), ← eput]
      try exact rfl
    · obtain ⟨a1, a2, a3⟩ := hI p i' hp
      by_cases e : p = j + 1
      · subst e
        rw [hi] at hp
        cases hp
        exact ⟨fun z => by omega, fun _ _ => ⟨List.getElem?_set_self (by omega), List.getElem?_set_self (by omega)⟩, fun z => by omega⟩
      · have hne : i ≠ i' := fun z => by subst z; exact e (luni hp hi)
        rw [List.getElem?_set_ne hne, List.getElem?_set_ne hne]
        exact ⟨a1, fun z1 z2 => a2 z1 (by omega), fun z => a3 (by omega)⟩
  · rintro vs ⟨Ws, G, x, rfl, hW1, hG1, hI⟩
    rw [rngD_len] at hI
    have hI2 : ∀ (p i : Nat), ls[p]? = some i → (p = 0 → Ws[i]? = some R0 ∧ G[i]? = some none) ∧ (0 < p → Ws[i]? = some [((p : Nat) : Int) - 1] ∧ G[i]? = some (some (((p : Nat) : Int) - 1))) := fun p i hp => by
      have hpl : p < ls.length := (List.getElem?_eq_some_iff.mp hp).1
      obtain ⟨a1, a2, _⟩ := hI p i hp
      exact ⟨a1, fun z => a2 z (by omega)⟩
    clear hI
    walk_at "nf"
    refine ⟨_, _, rfl, hb2, by decide, by decide, fun q t4 q0 q1 hb4 => ?_⟩
    walk_at "nf"
    refine ⟨szI (by omega), by omega, ?_⟩
    refine .fr [0, 3, 4, 6] (fun j vs => ∃ (t : T) (Ws : List (List Int)) (x y : Option T), vs = [some t, some (.nd .lst (Ws.map rowT)), x, y] ∧ IsBag t ∧ Ws.length = n ∧ ∀ (p i : Nat), ls[p]? = some i → (p = 0 → Ws[i]? = some R0) ∧ (0 < p → Ws[i]? = some [((p : Nat) : Int) - 1] ∨ Ws[i]? = some [((p : Nat) : Int) - 1, 99])) ⟨[_, _, _, _], rfl, _, Ws, _, _, rfl, hb4, hW1, fun p i hp => ⟨fun z => ((hI2 p i hp).1 z).1, fun z => .inl ((hI2 p i hp).2 z).1⟩⟩ ?_ ?_
    · rintro j d vs hd ⟨t, Ws, x, y, rfl, hb, hW1, hI⟩
      obtain ⟨hj, rfl⟩ := rngD_get hd
      walk_at "nf"
      refine ⟨_, _, rfl, hb, by omega, by omega, fun o t5 o0 o1 hb5 => ?_⟩
      obtain ⟨p, hp⟩ : ∃ p : Nat, 1 + o = (p : Int) := ⟨(1 + o).toNat, by omega⟩
      obtain ⟨i, hi⟩ : ∃ i : Nat, ls[p]? = some i := ⟨_, List.getElem?_eq_getElem (by omega)⟩
      have hin := hlm i (List.mem_of_getElem? hi)
      have hix := ixl hi
      refine ⟨.int (i : Nat), by rw [hp]; exact hix, ?_⟩
      obtain ⟨r, hr, hrc⟩ : ∃ r : List Int, Ws[i]? = some r ∧ (r = [((p : Nat) : Int) - 1] ∨ r = [((p : Nat) : Int) - 1, 99]) := by
        rcases (hI p i hi).2 (by omega) with z | z
        · exact ⟨_, z, .inl rfl⟩
        · exact ⟨_, z, .inr rfl⟩
      have hgt : (Ws.map rowT)[i]? = some (rowT r) := by rw [List.getElem?_map, hr]; rfl
      walk_at "nf"
      refine ⟨i, by rw [List.length_map, hW1, ixN_of (by omega) (by omega)]; rfl, rowT r, hgt, .inl ?_, fun z => ?_, fun z => ⟨[_, _, _, _], rfl, _, Ws, _, _, rfl, hb5, hW1, hI⟩⟩
      · simp [flD, T.d]
      · refine ⟨i, by rw [List.length_map, hW1, ixN_of (by omega) (by omega)]; rfl, rowT r, hgt, rfl, ?_⟩
        have hr1 : r = [((p : Nat) : Int) - 1] := by
          rcases hrc with e | e
          · exact e
          · exfalso
            subst e
            simp [T.d, eqD] at z
        subst hr1
        have eput : T.put (T.nd .lst (Ws.map rowT)) ([] ++ [i]) (T.ow .lst ([((p : Nat) : Int) - 1].map D.int ++ [D.int 99])) = .nd .lst ((Ws.set i [((p : Nat) : Int) - 1, 99]).map rowT) := by
          rw [put_one hgt, List.map_set]; rfl
        refine ⟨szL (by simp), ?_⟩
        refine ⟨[_, _, _, _], rfl, _, Ws.set i [((p : Nat) : Int) - 1, 99], _, _, (by rw [← eput]; try exact rfl), hb5, by rw [List.length_set]; exact hW1, fun p' i' hp' => ?_⟩
        by_cases e : p' = p
        · subst e
          rw [hi] at hp'
          cases hp'
          exact ⟨fun z => by omega, fun _ => .inr (List.getElem?_set_self (by omega))⟩
        · have hne : i ≠ i' := fun z => by subst z; exact e (luni hp' hi)
          rw [List.getElem?_set_ne hne]
          exact hI p' i' hp'
    · rintro vs ⟨t, Ws, x, y, rfl, hb, hW1, hI⟩
      have hdw : Tsd (Ws.map rowT) = Ws.map intsD := by
        rw [tsd_map, List.map_map]; rfl
      have hat : ∀ i : Nat, i < n → ∃ p, ls[p]? = some i := fun i hi => List.getElem?_of_mem (hls.mem_iff.mpr (List.mem_range.mpr hi))
      have hR0ok : rowOk R0 := by
        have := run_ok (f := 0) (n := n - 1) (by decide) (by omega)
        simpa [hR0] using this
      walk_at "nf"
      show Q (.nd .tup [.fz (.nd .lst (Tsd (Ws.map rowT))), .ow .lst (G.map giD)]) [t]
      rw [hdw]
      refine h Ws G t ⟨by omega, fun r hr => ?_⟩ ⟨by omega, fun k v hv => ?_, fun k l v hk hl => ?_⟩ hb
      · obtain ⟨i, hi⟩ := List.getElem?_of_mem hr
        have hin : i < n := by rw [← hW1]; exact (List.getElem?_eq_some_iff.mp hi).1
        obtain ⟨p, hp⟩ := hat i hin
        have hpl : p < ls.length := (List.getElem?_eq_some_iff.mp hp).1
        obtain ⟨b1, b2⟩ := hI p i hp
        rcases Nat.eq_zero_or_pos p with z | z
        · have := b1 z
          rw [hi] at this
          cases this
          exact hR0ok
        · rcases b2 z with this | this
          · rw [hi] at this
            cases this
            exact ⟨by simp, fun x hx => by simp at hx; omega, by simp⟩
          · rw [hi] at this
            cases this
            exact ⟨by simp; omega, fun x hx => by simp at hx; omega, by simp⟩
      · have hkn : k < n := by rw [← hG1]; exact (List.getElem?_eq_some_iff.mp hv).1
        obtain ⟨p, hp⟩ := hat k hkn
        rcases Nat.eq_zero_or_pos p with z | z
        · have := ((hI2 p k hp).1 z).2
          rw [hv] at this
          cases this
        · have := ((hI2 p k hp).2 z).2
          rw [hv] at this
          have ev : v = ((p : Nat) : Int) - 1 := Option.some.inj (Option.some.inj this)
          subst ev
          rcases (hI p k hp).2 z with q | q
          · exact ⟨_, q, by simp⟩
          · exact ⟨_, q, by simp⟩
      · have key : ∀ k : Nat, G[k]? = some (some v) → ∃ p, ls[p]? = some k ∧ v = ((p : Nat) : Int) - 1 := fun k hv => by
          have hkn : k < n := by rw [← hG1]; exact (List.getElem?_eq_some_iff.mp hv).1
          obtain ⟨p, hp⟩ := hat k hkn
          rcases Nat.eq_zero_or_pos p with z | z
          · have := ((hI2 p k hp).1 z).2
            rw [hv] at this
            cases this
          · have := ((hI2 p k hp).2 z).2
            rw [hv] at this
            exact ⟨p, hp, Option.some.inj (Option.some.inj this)⟩
        obtain ⟨p, hp, e1⟩ := key k hk
        obtain ⟨p2, hp2, e2⟩ := key l hl
        have : p = p2 := by omega
        subst this
        rw [hp] at hp2
        exact Option.some.inj hp2
theorem ok_rounds (Df : DefAt K mg "_law_rounds" s_rounds ["_law_wants", "_law_held", "_law_at"]) (B : Bt mg) : Callee P w K mg base 1 "_law_rounds" ["_law_wants", "_law_held", "_law_at"] [] rndS := by
  refine callee_of Df sc_rounds (by decide) (by decide) fun f cdv A outer s H EX W hr hG tk hp => ?_
  refine ⟨_, (ss_cons (s_set 3 (q_lst (a_cons ((q_lst (a_cons (p_nm 2).val a_nil))).fz a_nil)) sc_rounds.nd)
      (ss_cons (s_set 4 (q_dis (pr_cons (p_nm 2).val q_bl pr_nil)) sc_rounds.nd)
      (ss_cons (s_for hp rfl (i_rng (by rfl) B.range (q_b1 c_lenB g_lenB (by rfl) B.len bt_len (p_nm 0))) (g_name 5 sc_rounds.nd) (ss_cons (s_set 6 q_bl sc_rounds.nd)
      (ss_cons (s_set 7 q_dict0 sc_rounds.nd)
      (ss_cons (s_for hp rfl (i_list (q_ixA (hu65 hr) (p_nm 3) ((q_neg (q_int).p)).p)) (g_name 8 sc_rounds.nd) (ss_one (s_for hp rfl (i_list (q_ixA (hu65 hr) (p_nm 0) (p_nm 8))) (g_name 9 sc_rounds.nd) (ss_one (s_if (t_niA (hu65 hr) (p_nm 9) (p_nm 1)) (ss_one (s_set 6 q_bl sc_rounds.nd)) (ss_one (s_if (t_niA (hu65 hr) ((q_ixA (hu65 hr) (p_nm 1) (p_nm 9))).p (p_nm 4)) (ss_one (s_dput 7 (hu65 hr) q_bl (q_ixA (hu65 hr) (p_nm 1) (p_nm 9)))) ss_nil)))))))
      (ss_cons (s_if ((w_orM (t_val (p_nm 6).val) (w_or1 (t_eqD0 (hu65 hr) (p_nm 7) (q_dict0).p)))).t (ss_one (s_ret (q_tup (a_cons (q_fzn 3) (a_cons (p_nm 6).val a_nil))))) ss_nil)
      (ss_cons (s_expr (q_append 3 (a_cons ((q_sortD rfl (by rfl) B.sorted (p_nm 7))).fz a_nil)))
      (ss_one (s_expr (q_dupd 4 (a_cons (q_fzn 7) a_nil))))))))))
      (ss_one (s_ret (q_tup (a_cons (q_fzn 3) (a_cons q_bl a_nil)))))))), fun args Q E hl h => ?_⟩
  clear hl hr hG tk hp W EX H s outer A cdv f Df B
  obtain ⟨W, G, a, rfl, hi, hl, hW, ha, h⟩ := h
  walk_at "nf"
  refine ⟨⟨_, rfl⟩, ⟨by simp, show (1 : Nat) ≤ 15 by decide⟩, ?_⟩
  refine ⟨szI (by rw [List.length_map]; omega), by omega, ?_⟩
  refine .rng [3, 4, 5, 6, 7, 8, 9] (fun j vs => ∃ (acc : List (List Nat)) (L S : List Nat) (x1 x2 x3 x4 x5 : Option T), vs = [some (.ow .lst ((acc ++ [L]).map natsL)), some (.ow (.dK (S.map natK)) (S.map tt)), x1, x2, x3, x4, x5] ∧ acc.length < S.length ∧ j + 1 ≤ S.length ∧ S.Nodup ∧ (∀ i, i ∈ S → i < W.length) ∧
    L.Nodup ∧ (∀ i, i ∈ L → i < W.length) ∧ ∀ Ls fl, Lays W G S L Ls fl → Lays W G [a] [a] (acc ++ Ls) fl) ⟨[_, _, _, _, _, _, _], rfl, [], [a], [a], _, _, _, _, _, rfl, by simp, by simp, by simp, by simpa using ha, by simp, by simpa using ha, fun Ls fl hd => hd⟩ ?_ ?_
  · rintro j vs hj ⟨acc, L, S, x1, x2, x3, x4, x5, rfl, hacc, hjS, hSn, hSl, hLn, hLl, hd⟩
    have hSlen := few_lt hSn hSl
    have hrow : ∀ i, i ∈ L → ∃ r, W[i]? = some r ∧ rowW W i = r := fun i hi' => ⟨W[i]'(hLl i hi'), List.getElem?_eq_getElem _, by rw [rowW, List.getD_eq_getElem?_getD, List.getElem?_eq_getElem (hLl i hi')]; rfl⟩
    walk_at "nf"
    refine ⟨natsL L, at_last (by rw [List.length_map, List.length_append, List.getElem?_map, List.length_singleton, show acc.length + 1 - 1 = acc.length by omega, List.getElem?_append_right (Nat.le_refl _), Nat.sub_self]; rfl), ?_⟩
    refine .over L (fun i => .int (i : Nat)) rfl [6, 7, 8, 9] (fun j vs => ∃ (fs : List Nat) (x y : Option T), vs = [some (.fz (.bl (((L.take j).flatMap (rowW W)).any fun v => (holder G v).isNone))), some (.ow (.dK (fs.map natK)) (fs.map tt)), x, y] ∧ fs.Nodup ∧ ∀ i, i ∈ fs ↔ i ∉ S ∧ ∃ v, v ∈ (L.take j).flatMap (rowW W) ∧ holder G v = some i) ⟨[_, _, _, _], rfl, [], _, _, rfl, by simp, by simp⟩ ?_ ?_
    · rintro j i vs hj ⟨fs, x, y, rfl, hfn, hfm⟩
      obtain ⟨r, hr, hrw⟩ := hrow i (List.mem_of_getElem? hj)
      walk_at "nf"
      refine ⟨intsD r, at_of (by rw [List.getElem?_map, hr]; rfl), ?_⟩
      refine .over r D.int rfl [6, 7, 9] (fun k vs => ∃ (fs : List Nat) (y : Option T), vs = [some (.fz (.bl (((L.take j).flatMap (rowW W) ++ r.take k).any fun v => (holder G v).isNone))), some (.ow (.dK (fs.map natK)) (fs.map tt)), y] ∧ fs.Nodup ∧ ∀ i, i ∈ fs ↔ i ∉ S ∧ ∃ v, v ∈ (L.take j).flatMap (rowW W) ++ r.take k ∧ holder G v = some i) ⟨[_, _, _], rfl, fs, _, by rw [List.take_zero, List.append_nil], hfn, by simpa using hfm⟩ ?_ ?_
      · rintro k v vs hk ⟨fs, y, rfl, hfn, hfm⟩
        have etk : (L.take j).flatMap (rowW W) ++ r.take (k + 1) = ((L.take j).flatMap (rowW W) ++ r.take k) ++ [v] := by rw [List.take_succ, hk, Option.toList_some, List.append_assoc]
        rw [etk]
        generalize (L.take j).flatMap (rowW W) ++ r.take k = l at *
        have eany : ((l ++ [v]).any fun v => (holder G v).isNone) = ((l.any fun v => (holder G v).isNone) || (holder G v).isNone) := by rw [List.any_append]; simp
        rw [eany]
        walk_at "nf"
        refine ⟨_, dget_held hi, fun z => ?_, fun z => ?_⟩
        · have hno : holder G v = none := by cases e : holder G v with | none => rfl | some q => rw [e] at z; cases z
          refine ⟨[_, _, _], rfl, fs, some (.fz (.int v)), by rw [hno]; simp, hfn, fun i => ?_⟩
          rw [hfm i]
          constructor
          · rintro ⟨h1, u, hu, e⟩; exact ⟨h1, u, List.mem_append_left _ hu, e⟩
          · rintro ⟨h1, u, hu, e⟩
            rcases List.mem_append.mp hu with hu | hu
            · exact ⟨h1, u, hu, e⟩
            · simp at hu; subst hu; rw [hno] at e; cases e
        · obtain ⟨q, hq⟩ : ∃ q, holder G v = some q := by cases e : holder G v with | none => rw [e] at z; cases z | some q => exact ⟨q, rfl⟩
          have eb : ((l.any fun v => (holder G v).isNone) || (holder G v).isNone) = l.any fun v => (holder G v).isNone := by rw [hq]; simp
          rw [eb]
          have eall : ∀ i, (∃ u, u ∈ l ++ [v] ∧ holder G u = some i) ↔ (∃ u, u ∈ l ∧ holder G u = some i) ∨ i = q := fun i => by
            constructor
            · rintro ⟨u, hu, e⟩
              rcases List.mem_append.mp hu with hu | hu
              · exact .inl ⟨u, hu, e⟩
              · simp at hu; subst hu; rw [hq] at e; exact .inr (Option.some.inj e).symm
            · rintro (⟨u, hu, e⟩ | rfl)
              · exact ⟨u, List.mem_append_left _ hu, e⟩
              · exact ⟨v, by simp, hq⟩
          walk_at "nf"
          refine ⟨_, by rw [dget_held hi, hq]; rfl, ?_⟩
          refine ⟨_, dget_tt, fun z => ?_, fun z => ?_⟩
          · have hqS : q ∉ S := fun e => by simp [e] at z
            refine ⟨rfl, _, by rw [dget_held hi, hq]; rfl, ?_⟩
            have hfl : fs.length ≤ W.length := few_lt hfn fun i hi' => by
              obtain ⟨_, u, _, e⟩ := (hfm i).mp hi'
              have := holder_lt e; omega
            refine ⟨by rw [List.length_map]; exact Nat.lt_of_le_of_lt (show fs.length ≤ 100 by omega) (by decide), ?_⟩
            have e1 := put_tt (i := q) (fs := fs)
            refine ⟨[_, _, _], rfl, if q ∈ fs then fs else fs ++ [q], some (.fz (.int v)), ?_, ?_, fun i => ?_⟩
            · rw [← e1.1, ← e1.2]; exact rfl
            · split
              · exact hfn
              · rename_i hno
                exact List.nodup_append.mpr ⟨hfn, by simp, fun a ha b hb e => by simp at hb; subst hb; subst e; exact hno ha⟩
            · rw [eall i]
              split
              · rename_i hyes
                rw [hfm i]
                constructor
                · rintro ⟨h1, h2⟩; exact ⟨h1, .inl h2⟩
                · rintro ⟨h1, h2 | rfl⟩
                  · exact ⟨h1, h2⟩
                  · exact (hfm i).mp hyes
              · rw [List.mem_append, hfm i, List.mem_singleton]
                constructor
                · rintro (⟨h1, h2⟩ | rfl)
                  · exact ⟨h1, .inl h2⟩
                  · exact ⟨hqS, .inr rfl⟩
                · rintro ⟨h1, h2 | rfl⟩
                  · exact .inl ⟨h1, h2⟩
                  · exact .inr rfl
          · have hqS : q ∈ S := Decidable.byContradiction fun e => by simp [e] at z
            refine ⟨[_, _, _], rfl, fs, some (.fz (.int v)), rfl, hfn, fun i => ?_⟩
            rw [eall i, hfm i]
            constructor
            · rintro ⟨h1, h2⟩; exact ⟨h1, .inl h2⟩
            · rintro ⟨h1, h2 | rfl⟩
              · exact ⟨h1, h2⟩
              · exact absurd hqS h1
      · rintro vs ⟨fs, y, rfl, hfn, hfm⟩
        rw [List.take_length] at hfm ⊢
        exact ⟨[_, _, _, _], rfl, fs, _, _, by rw [List.take_succ, hj, Option.toList_some, List.flatMap_append, List.flatMap_singleton, hrw], hfn, by rw [List.take_succ, hj, Option.toList_some, List.flatMap_append, List.flatMap_singleton, hrw]; exact hfm⟩
    · rintro vs ⟨fs, x, y, rfl, hfn, hfm⟩
      rw [List.take_length] at hfm ⊢
      rw [← free_flat]
      have hfmN : ∀ i, i ∈ fs ↔ i ∈ nxt W G S L := fun i => by
        rw [hfm i, mem_nxt hl]
        constructor
        · rintro ⟨h1, v, hv, e⟩
          obtain ⟨i', hi', hv'⟩ := List.mem_flatMap.mp hv
          exact ⟨v, holder_some e, List.any_eq_true.mpr ⟨i', hi', by simpa using hv'⟩, h1⟩
        · rintro ⟨v, h1, h2, h3⟩
          obtain ⟨i', hi', hv'⟩ := List.any_eq_true.mp h2
          exact ⟨h3, v, List.mem_flatMap.mpr ⟨i', hi', by simpa using hv'⟩, holder_of hi h1⟩
      have hfl : ∀ i, i ∈ fs → i < W.length := fun i h => nxt_lt ((hfmN i).mp h)
      have hfd : ∀ i, i ∈ fs → i ∉ S := fun i h => ((hfm i).mp h).1
      have hfL := few_lt hfn hfl
      have hSfn : (S ++ fs).Nodup := List.nodup_append.mpr ⟨hSn, hfn, fun a ha b hb e => by subst e; exact hfd a hb ha⟩
      have hSfl : ∀ i, i ∈ S ++ fs → i < W.length := fun i hi' => by
        rcases List.mem_append.mp hi' with z | z
        · exact hSl i z
        · exact hfl i z
      have hSfL := few_lt hSfn hSfl
      walk_at "nf"
      refine ⟨(fs.map natK).isEmpty, fun _ => ⟨_, _, _, rfl, rfl, rfl, rfl⟩, fun z => ?_, fun z => ?_⟩
      · walk_at "nf"
        cases hf : freeL W G L with
        | true => exact h (acc ++ [L]) true (hd [L] true (.free hf))
        | false =>
          have z2 : (fs.map natK).isEmpty = true := by rw [hf] at z; simpa using z
          have hN : nxt W G S L = [] := List.eq_nil_iff_forall_not_mem.mpr fun i q => by
            have := (hfmN i).mpr q
            rw [List.isEmpty_iff, List.map_eq_nil_iff] at z2
            rw [z2] at this
            cases this
          exact h (acc ++ [L]) false (hd [L] false (.stop hf hN))
      have hf : freeL W G L = false := by
        cases e : freeL W G L with
        | false => rfl
        | true => rw [e] at z; cases z
      have hfe : fs ≠ [] := fun e => by subst e; rw [hf] at z; cases z
      have hfpos := List.length_pos_iff.mpr hfe
      have hN : nxt W G S L ≠ [] := fun e => by
        obtain ⟨i, hi'⟩ := List.exists_mem_of_ne_nil fs hfe
        have := (hfmN i).mp hi'
        rw [e] at this
        cases this
      walk_at "nf"
      refine ⟨rfl, fs.map fun i => ((i : Nat) : Int), fs.map tt, by rw [List.map_map]; rfl, fun ms hp hs => ?_⟩
      have hms : ms = (nxt W G S L).map fun i => ((i : Nat) : Int) := by
        refine sorted_eq (r := (· < ·)) (fun a h => by omega) (fun a b h => by omega) ?_ ?_ fun a => ?_
        · have hmn : ms.Nodup := hp.nodup_iff.mpr (List.pairwise_map.mpr (hfn.imp fun h e => h (by omega)))
          exact (hs.and hmn).imp fun h => by omega
        · exact List.pairwise_map.mpr (nxt_sorted.imp fun h => by omega)
        · rw [hp.mem_iff, List.mem_map, List.mem_map]
          exact ⟨fun ⟨i, h1, h2⟩ => ⟨i, (hfmN i).mp h1, h2⟩, fun ⟨i, h1, h2⟩ => ⟨i, (hfmN i).mpr h1, h2⟩⟩
      have hL5 : (natsL (nxt W G S L)) = .nd .lst (ms.map D.int) := by rw [hms, List.map_map]; rfl
      refine ⟨szL (by rw [List.length_map, List.length_append, List.length_singleton]; omega), ?_⟩
      walk_at "nf"
      refine ⟨rfl, ?_⟩
      refine ⟨by rw [List.length_map, List.length_map]; exact Nat.le_trans (show S.length + fs.length ≤ 200 by omega) (by decide), ?_⟩
      have em : mrg (S.map natK) (S.map tt) (fs.map natK) (fs.map tt) = ((S ++ fs).map natK, (S ++ fs).map tt) := mrg_tt hfn hfd
      have e1 : (mrg (S.map natK) (S.map tt) (fs.map natK) (fs.map tt)).1 = (S ++ fs).map natK := by rw [em]
      have e2 : (mrg (S.map natK) (S.map tt) (fs.map natK) (fs.map tt)).2 = (S ++ fs).map tt := by rw [em]
      rw [List.length_append] at hSfL
      have eA : T.ow .lst ((acc ++ [L]).map natsL ++ [.nd .lst (ms.map D.int)]) = .ow .lst ((acc ++ [L] ++ [nxt W G S L]).map natsL) := by
        rw [List.map_append (l₁ := acc ++ [L]), ← hL5]; rfl
      have eB : (T.ow (.dK (mrg (S.map natK) (S.map tt) (fs.map natK) (fs.map tt)).1) (mrg (S.map natK) (S.map tt) (fs.map natK) (fs.map tt)).2) = .ow (.dK ((S ++ fs).map natK)) ((S ++ fs).map tt) := by rw [e1, e2]
      refine ⟨[_, _, _, _, _, _, _], rfl, acc ++ [L], nxt W G S L, S ++ fs, _, _, _, _, _, by rw [← eA, ← eB]; exact rfl, by simp; omega, by rw [List.length_append]; omega, hSfn, hSfl, nxt_sorted.imp fun h => by omega, fun i h => nxt_lt h, fun Ls fl hd2 => ?_⟩
      rw [List.append_assoc]
      exact hd _ _ (.step hf rfl hN (hd2.congr fun i => by simp [hfmN i]))
  · rintro vs ⟨acc, L, S, x1, x2, x3, x4, x5, rfl, hacc, hjS, hSn, hSl, hLn, hLl, hd⟩
    exfalso
    have hSlen := few_lt hSn hSl
    rw [List.length_map, Int.toNat_natCast] at hjS
    omega
theorem ok_look (Df : DefAt K mg "_law_look" s_look ["_law_wants", "_law_given", "_law_at"]) (B : Bt mg) (C_rounds : Callee P w K mg base 1 "_law_rounds" ["_law_wants", "_law_held", "_law_at"] [] rndS) (C_leads : Callee P w K mg base 1 "_law_leads" ["_law_held", "_law_good", "_law_right"] [] lleadsS) : Callee P w K mg base 2 "_law_look" ["_law_wants", "_law_given", "_law_at"] [] llookS := by
  refine callee_of Df sc_look (by decide) (by decide) fun f cdv A outer s H EX W hr hG tk hp => ?_
  refine ⟨_, (ss_cons (s_set 3 ((q_dictP rfl (by rfl) B.dict ((q_lc (own := [("_law_one", 4), ("_law_right", 5)]) rfl sc_look.nd (i_enum (by rfl) B.enumerate (p_nm 1).val) (blkOk_by (by rfl)) (fun _ _ _ _ _ => (g_tup (n := 2) rfl (gs_cons (g_name 4 sc_look.nd) (gs_cons (g_name 5 sc_look.nd) gs_nil)))) (fun _ _ _ _ _ => (ts_one (t_notN (p_nm 5) (q_non).p))) (fun _ _ _ _ _ => (q_tup (a_cons (p_nm 5).val (a_cons (p_nm 4).val a_nil)))))).p)).fz sc_look.nd)
      (ss_cons (s_asgT (q_callC C_rounds tk (hr.mono (by decide)) hG (by rfl) (a_cons (p_nm 0).val (a_cons (p_nm 3).val (a_cons (p_nm 2).val a_nil))) []) (g_tup (n := 2) rfl (gs_cons (g_name 6 sc_look.nd) (gs_cons (g_name 7 sc_look.nd) gs_nil))))
      (ss_cons (s_if (t_not (t_val (p_nm 7).val)) (ss_one (s_ret (q_tup (a_cons ((q_lst a_nil)).fz (a_cons (p_nm 6).val a_nil))))) ss_nil)
      (ss_cons (s_set 8 (q_lst a_nil) sc_look.nd)
      (ss_cons (s_set 9 (q_dict0).fz sc_look.nd)
      (ss_cons (s_for hp rfl (i_list ((q_revL (p_nm 6))).fz) (g_name 10 sc_look.nd) (ss_cons (s_set 11 q_dict0 sc_look.nd)
      (ss_cons (s_for hp rfl (i_list (p_nm 10).val) (g_name 4 sc_look.nd) (ss_cons (s_setLcF 12 (own := [("_law_right", 5)]) rfl sc_look.nd (i_list (q_ixA (hu65 hr) (p_nm 0) (p_nm 4))) (blkOk_by (by rfl)) (fun _ _ _ _ _ => (g_name 5 sc_look.nd)) (fun _ _ _ _ _ => (ts_one (t_val (q_callC C_leads takes0 (hr.mono (by decide)) hG (by rfl) (a_cons (p_nm 3).val (a_cons (p_nm 9).val (a_cons (p_nm 5).val a_nil))) [])))) (fun _ _ _ _ _ => (p_nm 5).val))
      (ss_one (s_if (t_ne (hu65 hr) (p_nm 12) ((q_lst a_nil)).p) (ss_one (s_dput 11 (hu65 hr) (q_ixA (hu65 hr) (p_nm 12) (q_int).p) (p_nm 4).val)) ss_nil))))
      (ss_cons (s_expr (q_append 8 (a_cons (q_fzn 11) a_nil)))
      (ss_one (s_set 9 (q_fzn 11) sc_look.nd))))))
      (ss_cons (s_set 13 (q_lst a_nil) sc_look.nd)
      (ss_cons (s_set 4 (p_nm 2).val sc_look.nd)
      (ss_cons (s_for hp rfl (i_list ((q_revL (p_nm 8))).fz) (g_name 11 sc_look.nd) (ss_cons (s_expr (q_append 13 (a_cons (q_tup (a_cons (p_nm 4).val (a_cons (q_ixA (hu65 hr) (p_nm 11) (p_nm 4)) a_nil))) a_nil)))
      (ss_one (s_set 4 (q_dget1 (hu65 hr) (p_nm 3) (q_ixA (hu65 hr) (p_nm 11) (p_nm 4))) sc_look.nd))))
      (ss_one (s_ret (q_tup (a_cons (q_fzn 13) (a_cons (p_nm 6).val a_nil)))))))))))))), fun args Q E hl h => ?_⟩
  clear hl hr hG tk hp W EX H s outer A cdv f Df B C_rounds C_leads
  obtain ⟨W, G, a, rfl, hi, hl, hW, ha, h⟩ := h
  walk_at "nf"
  refine .over G.zipIdx (fun p => .nd .tup [.int (p.2 : Nat), giD p.1]) (enum_zip G) (fun p => p.1.isSome) (fun p => .nd .tup [giD p.1, .int (p.2 : Nat)]) (fun j p hj => ?_) ?_
  · walk_at "nf"
    refine ⟨rfl, fun z => ⟨over_yes hj ?_, rfl⟩, fun z => ⟨over_no hj ?_, rfl⟩⟩
    · obtain ⟨o, i⟩ := p
      cases o with
      | none => cases z
      | some x => rfl
    · obtain ⟨o, i⟩ := p
      cases o with
      | none => rfl
      | some x => cases z
  rw [pairs_hp]
  refine ⟨_, _, pairsD_hp (hpairs G), ?_⟩
  rw [show mrg [] ([] : List D) ((hpairs G).map fun p => (Sum.inl p.1 : Key)) ((hpairs G).map fun p => D.int (p.2 : Nat)) = (hK G, hV G) from held_mrg hi]
  walk_at "nf"
  refine ⟨W, G, a, rfl, hi, hl, hW, ha, fun Ls fl hd => ?_⟩
  refine ⟨rfl, ?_⟩
  walk_at "nf"
  refine ⟨fun z => ?_, fun z => ?_⟩
  · have e0 : fl = false := by simpa using z
    subst e0
    exact h Ls false hd
  have e0 : fl = true := by simpa using z
  subst e0
  have hmany := hd.few hl (by simp) (by simpa using ha)
  have heach := hd.each (by simp) (by simpa using ha)
  have hways := hd.ways hl hi rfl
  have hpos : 0 < Ls.length := by obtain ⟨Ls', rfl⟩ := hd.head; simp
  simp only [List.length_singleton] at hmany
  have hres := h Ls true hd
  walk_at "nf"
  refine .fr [4, 8, 9, 10, 11, 12] (fun j vs => ∃ x y z w, vs = [x, some (.ow .lst ((List.range j).map fun k => gdD W G (Ls.drop (Ls.length - 1 - k)))), some (.fz (gdD W G (Ls.drop (Ls.length - j)))), y, z, w]) ⟨[_, _, _, _, _, _], rfl, _, _, _, _, by rw [Nat.sub_zero, List.drop_length]; exact rfl⟩ ?_ ?_
  · rintro j d vs hdd ⟨x, y, z, w, rfl⟩
    dsimp only [id] at hdd
    rw [← List.map_reverse, List.getElem?_map] at hdd
    obtain ⟨L, hL, rfl⟩ := Option.map_eq_some_iff.mp hdd
    have hj : j < Ls.length := by have := (List.getElem?_eq_some_iff.mp hL).1; rwa [List.length_reverse] at this
    rw [List.getElem?_reverse hj] at hL
    have hdr := drop_cons hL
    obtain ⟨hLn, hLl⟩ := heach L (List.mem_of_getElem? hL)
    have hL100 := Nat.le_trans (few_lt hLn hLl) hW
    have e1 : Ls.length - 1 - j + 1 = Ls.length - j := by omega
    rw [e1] at hdr
    have hne : Ls.drop (Ls.length - j) ≠ [] → gdL W G (Ls.drop (Ls.length - j)) ≠ [] := fun q => by
      refine hways _ ?_
      rcases Nat.lt_or_ge (Ls.length - j) Ls.length with z | z
      · exact z
      · exact absurd (List.drop_eq_nil_of_le z) q
    revert hdr hne
    generalize Ls.drop (Ls.length - j) = R
    intro hdr hne
    walk_at "nf"
    refine .over L (fun i => .int (i : Nat)) rfl [4, 11, 12] (fun k vs => ∃ x y, vs = [x, some (.ow (.dK (((L.take k).filter fun i => !(leadW W G (L :: R) i).isEmpty).map natK)) (((L.take k).filter fun i => !(leadW W G (L :: R) i).isEmpty).map fun i => .int ((leadW W G (L :: R) i).headD 0))), y]) ⟨[_, _, _], rfl, _, _, rfl⟩ ?_ ?_
    · rintro k i vs hk ⟨x, y, rfl⟩
      have hiL := List.mem_of_getElem? hk
      have hiW := hLl i hiL
      have hr : W[i]? = some W[i] := List.getElem?_eq_getElem hiW
      have hrw : rowW W i = W[i] := by rw [rowW, List.getD_eq_getElem?_getD, hr]; rfl
      have hlead : leadW W G (L :: R) i = W[i].filter (nxP W G R) := by rw [lead_nx hiL, hrw]
      walk_at "nf"
      refine ⟨intsD W[i], at_of (by rw [List.getElem?_map, hr]; rfl), ?_⟩
      refine .over W[i] D.int rfl (nxP W G R) D.int (fun m v hv => ?_) ?_
      · refine ⟨W, G, R, v, rfl, hi, hne, fun z => ⟨over_yes hv z, rfl⟩, fun z => ⟨over_no hv z, rfl⟩⟩
      rw [← hlead]
      have hkl := (List.getElem?_eq_some_iff.mp hk).1
      have hno : i ∉ (L.take k).filter fun i => !(leadW W G (L :: R) i).isEmpty := fun hm => by
        obtain ⟨m, hm1⟩ := List.getElem?_of_mem (List.mem_filter.mp hm).1
        have hmk : m < k := by have := (List.getElem?_eq_some_iff.mp hm1).1; rw [List.length_take] at this; omega
        rw [List.getElem?_take, if_pos hmk] at hm1
        obtain ⟨_, ea⟩ := List.getElem?_eq_some_iff.mp hm1
        obtain ⟨_, eb⟩ := List.getElem?_eq_some_iff.mp hk
        have := (List.getElem_inj hLn).mp (ea.trans eb.symm)
        omega
      have htk : (L.take (k + 1)).filter (fun i => !(leadW W G (L :: R) i).isEmpty) = (L.take k).filter (fun i => !(leadW W G (L :: R) i).isEmpty) ++ if (leadW W G (L :: R) i).isEmpty then [] else [i] := by
        rw [List.take_succ, hk, Option.toList_some, List.filter_append]
        congr 1
        cases e : (leadW W G (L :: R) i).isEmpty <;> simp [e]
      have hsz : (((L.take k).filter fun i => !(leadW W G (L :: R) i).isEmpty).map natK).length < sizeLine := by
        rw [List.length_map]
        refine szL (Nat.lt_of_le_of_lt (List.length_filter_le _ _) ?_)
        rw [List.length_take]
        omega
      rw [htk]
      revert hno hsz
      generalize (L.take k).filter (fun i => !(leadW W G (L :: R) i).isEmpty) = fs
      intro hno hsz
      walk_at "nf"
      refine ⟨.inr ⟨pl_ints, rfl⟩, fun c => ?_, fun c => ?_⟩
      · obtain ⟨v, tl, hv⟩ : ∃ v tl, leadW W G (L :: R) i = v :: tl := by
          cases e : leadW W G (L :: R) i with
          | nil => rw [e] at c; simp [T.d, eq_nil] at c
          | cons v tl => exact ⟨v, tl, rfl⟩
        refine ⟨.int v, at_int (by decide) (by rw [hv]; rfl), rfl, hsz, ?_⟩
        have e := put_new (i := i) (v := .int v) (f := fun i => D.int ((leadW W G (L :: R) i).headD 0)) hno (by show D.int ((leadW W G (L :: R) i).headD 0) = _; rw [hv]; rfl)
        refine ⟨[_, _, _], rfl, _, _, by rw [hv, if_neg (by simp)]; rw [← e.1, ← e.2, ← hv]; exact rfl⟩
      · have hv : leadW W G (L :: R) i = [] := by
          cases e : leadW W G (L :: R) i with
          | nil => rfl
          | cons _ _ => rw [e] at c; simp [T.d, eqD, eqDs] at c
        have e2 : (fs ++ if (leadW W G (L :: R) i).isEmpty = true then [] else [i]) = fs := by rw [hv]; simp
        refine ⟨[_, _, _], rfl, _, _, by rw [e2]⟩
    · rintro vs ⟨x, y, rfl⟩
      rw [List.take_length]
      walk_at "nf"
      refine ⟨rfl, szL (by rw [List.length_map, List.length_range]; omega), ?_⟩
      walk_at "nf"
      have eg : gdD W G (Ls.drop (Ls.length - 1 - j)) = .nd (.dK ((L.filter fun i => !(leadW W G (L :: R) i).isEmpty).map natK)) ((L.filter fun i => !(leadW W G (L :: R) i).isEmpty).map fun i => .int ((leadW W G (L :: R) i).headD 0)) := by rw [hdr]; rfl
      refine ⟨[_, _, _, _, _, _], rfl, _, _, _, _, by rw [List.range_succ, List.map_append, List.map_singleton, show Ls.length - (j + 1) = Ls.length - 1 - j by omega, eg]; exact rfl⟩
  · rintro vs ⟨x, y, z, w, rfl⟩
    rw [id, List.length_reverse, List.length_map]
    have er : ((List.range Ls.length).map fun k => gdD W G (Ls.drop (Ls.length - 1 - k))).reverse = (List.range Ls.length).map fun k => gdD W G (Ls.drop k) := by
      apply List.ext_getElem
      · simp
      · intro i h1 h2
        simp at h1 h2
        simp
        congr 2
        omega
    obtain ⟨i0, hi0, hw0⟩ := hd.way hl hi rfl
    have hi0 : i0 = a := by simpa using hi0
    subst hi0
    walk_at "nf"
    refine .over (List.range Ls.length) (fun k => gdD W G (Ls.drop k)) er [4, 11, 13] (fun k vs => ∃ (r : List (Nat × Int)) (one : D) (x : Option T), vs = [some (.fz one), x, some (.ow .lst (r.map fun p => .nd .tup [.int (p.1 : Nat), .int p.2]))] ∧ r.length = k ∧
      ((k < Ls.length ∧ ∃ i : Nat, one = .int (i : Nat) ∧ leadW W G (Ls.drop k) i ≠ [] ∧ r ++ rowF W G (Ls.drop k) i = rowF W G Ls i0) ∨ (k = Ls.length ∧ r = rowF W G Ls i0))) ⟨[_, _, _], rfl, [], _, _, rfl, rfl, .inl ⟨hpos, i0, rfl, by simpa using hw0, by simp⟩⟩ ?_ ?_
    · rintro k k' vs hk ⟨r, one, x, rfl, hrl, hor⟩
      obtain ⟨hkl, rfl⟩ : k < Ls.length ∧ k' = k := by
        rw [List.getElem?_eq_some_iff] at hk
        obtain ⟨h1, h2⟩ := hk
        simp at h1 h2
        exact ⟨h1, h2.symm⟩
      obtain ⟨_, i, rfl, hw, hrow⟩ := hor.resolve_right fun ⟨z, _⟩ => by omega
      obtain ⟨L, hL⟩ : ∃ L, Ls[k']? = some L := ⟨_, List.getElem?_eq_getElem hkl⟩
      have hdr := drop_cons hL
      rw [hdr] at hw hrow
      obtain ⟨v, tl, hv⟩ : ∃ v tl, leadW W G (L :: Ls.drop (k' + 1)) i = v :: tl := by
        cases e : leadW W G (L :: Ls.drop (k' + 1)) i with
        | nil => exact absurd e hw
        | cons v tl => exact ⟨v, tl, rfl⟩
      obtain ⟨hiL, hvr, hnx⟩ := lead_mem (W := W) (G := G) (L := L) (Ls := Ls.drop (k' + 1)) (i := i) (x := v) (by rw [hv]; simp)
      have hgd : dGet (.fz (gdD W G (L :: Ls.drop (k' + 1)))) (.fz (.int (i : Nat))) = some (some (.int v)) := by
        rw [dget_gd, if_pos (mem_gd.mpr hw), hv]; rfl
      rw [hdr]
      walk_at "nf"
      refine ⟨rfl, _, hgd, szL (by rw [List.length_map]; omega), ?_⟩
      refine ⟨rfl, _, hgd, _, dget_held hi, ?_⟩
      rw [rowF, hv] at hrow
      rcases hnx with ⟨hend, hnn⟩ | ⟨hgo, q, hq, hwq⟩
      · have hkn : k' + 1 = Ls.length := by
          have := congrArg List.length hend
          rw [List.length_drop] at this
          simp at this
          omega
        rw [hnn]
        simp only [hnn] at hrow
        exact ⟨[_, _, _], rfl, r ++ [(i, v)], .non, some (.fz (gdD W G (L :: Ls.drop (k' + 1)))), by rw [List.map_append]; exact rfl, by simp [hrl], .inr ⟨hkn, hrow⟩⟩
      · have hkn : k' + 1 < Ls.length := by
          rcases Nat.lt_or_ge (k' + 1) Ls.length with z | z
          · exact z
          · exact absurd (List.drop_eq_nil_of_le z) hgo
        rw [hq]
        simp only [hq] at hrow
        exact ⟨[_, _, _], rfl, r ++ [(i, v)], .int (q : Nat), some (.fz (gdD W G (L :: Ls.drop (k' + 1)))), by rw [List.map_append]; exact rfl, by simp [hrl], .inl ⟨hkn, q, rfl, hwq, by rw [List.append_assoc]; exact hrow⟩⟩
    · rintro vs ⟨r, one, x, rfl, hrl, hor⟩
      rw [List.length_range] at hor
      rcases hor with ⟨z, _⟩ | ⟨_, rfl⟩
      · omega
      · exact hres
theorem ok_leads (Df : DefAt K mg "_law_leads" s_leads ["_law_held", "_law_good", "_law_right"]) : Callee P w K mg base 1 "_law_leads" ["_law_held", "_law_good", "_law_right"] [] lleadsS := by
  refine callee_of Df sc_leads (by decide) (by decide) fun f cdv A outer s H EX W hr hG tk hp => ?_
  refine ⟨_, (ss_cons (s_if (t_eqD0 (hu65 hr) (p_nm 1) (q_dict0).p) (ss_one (s_ret (q_niA (hu65 hr) (p_nm 2) (p_nm 0)))) ss_nil)
      (ss_one (s_ret (q_inA (hu65 hr) ((q_dget2 (hu65 hr) (p_nm 0) (p_nm 2).val (q_neg (q_int).p))).p (p_nm 1))))), fun args Q E hl h => ?_⟩
  clear hl hr hG tk hp W EX H s outer A cdv f Df
  obtain ⟨W, G, Ls, x, rfl, hi, hne, h⟩ := h
  walk_at "nf"
  refine ⟨_, _, _, rfl, rfl, fun z => ?_, fun z => ?_⟩
  · have e : Ls = [] := by
      cases Ls with
      | nil => rfl
      | cons L Ls =>
        exfalso
        refine hne (by simp) ?_
        simpa using z
    subst e
    walk_at "nf"
    refine ⟨_, dget_held hi, ?_⟩
    show Q (.fz (.bl (!((holder G x).map fun i => D.int (i : Nat)).isSome))) []
    have e : (!((holder G x).map fun i => D.int (i : Nat)).isSome) = nxP W G [] x := by
      unfold nxP
      cases holder G x <;> rfl
    rw [e]
    exact h
  · have e : Ls ≠ [] := fun e => by
      subst e
      have z2 : true = false := z
      cases z2
    obtain ⟨L, Ls', rfl⟩ : ∃ L Ls', Ls = L :: Ls' := by
      cases Ls with
      | nil => exact absurd rfl e
      | cons L Ls => exact ⟨L, Ls, rfl⟩
    walk_at "nf"
    refine ⟨rfl, _, dget_held hi, ?_⟩
    cases q : holder G x with
    | none =>
      have e2 : nxP W G (L :: Ls') x = false := by
        show (match holder G x with | some j => !(leadW W G (L :: Ls') j).isEmpty | none => false) = false
        rw [q]
      rw [e2] at h
      refine ⟨none, dget_gdm, ?_⟩
      exact h
    | some j =>
      have e2 : nxP W G (L :: Ls') x = !(leadW W G (L :: Ls') j).isEmpty := by
        show (match holder G x with | some j => !(leadW W G (L :: Ls') j).isEmpty | none => false) = _
        rw [q]
      rw [e2] at h
      refine ⟨_, dget_gd, ?_⟩
      have e3 : (if j ∈ gdL W G (L :: Ls') then some (D.int ((leadW W G (L :: Ls') j).headD 0)) else none).isSome = !(leadW W G (L :: Ls') j).isEmpty := by
        by_cases m : j ∈ gdL W G (L :: Ls')
        · rw [if_pos m]
          have := mem_gd.mp m
          cases e4 : leadW W G (L :: Ls') j with
          | nil => exact absurd e4 this
          | cons _ _ => rfl
        · rw [if_neg m]
          cases e4 : leadW W G (L :: Ls') j with
          | nil => rfl
          | cons _ _ => exact absurd (mem_gd.mpr (by rw [e4]; simp)) m
      show Q (.fz (.bl _)) []
      rw [← e3] at h
      exact h
theorem ok_due (Df : DefAt K mg "_law_due" s_due ["_law_which", "_law_wants", "_law_given", "_law_at"]) (B : Bt mg) (C_more : Callee P w K mg base 1 "_law_more" ["_law_wants", "_law_some"] [] moreS) (C_look : Callee P w K mg base 2 "_law_look" ["_law_wants", "_law_given", "_law_at"] [] llookS) (C_turned : Callee P w K mg base 1 "_law_turned" ["_law_given", "_law_row"] [] turnS) (C_filled : Callee P w K mg base 3 "_law_filled" ["_law_wants", "_law_given"] [] fillS) : Callee P w K mg base 4 "_law_due" ["_law_which", "_law_wants", "_law_given", "_law_at"] [] dueS := by
  refine callee_of Df sc_due (by decide) (by decide) fun f cdv A outer s H EX W hr hG tk hp => ?_
  refine ⟨_, (ss_cons (s_if (t_eq (hu65 hr) (p_nm 0) (q_int).p) (ss_one (s_ret (q_callC C_look tk (hr.mono (by decide)) hG (by rfl) (a_cons (p_nm 1).val (a_cons (p_nm 2).val (a_cons (p_nm 3).val a_nil))) []))) ss_nil)
      (ss_cons (s_if (t_eq (hu65 hr) (p_nm 0) (q_int).p) (ss_one (s_ret ((q_callC C_turned tk (hr.mono (by decide)) hG (by rfl) (a_cons (p_nm 2).val (a_cons (q_ixA (hu65 hr) ((q_callC C_look tk (hr.mono (by decide)) hG (by rfl) (a_cons (p_nm 1).val (a_cons (p_nm 2).val (a_cons (p_nm 3).val a_nil))) [])).p (q_int).p) a_nil)) [])).fz)) ss_nil)
      (ss_cons (s_if (t_eq (hu65 hr) (p_nm 0) (q_int).p) (ss_one (s_ret ((q_callC C_filled tk (hr.mono (by decide)) hG (by rfl) (a_cons (p_nm 1).val (a_cons (p_nm 2).val a_nil)) [])).fz)) ss_nil)
      (ss_one (s_ret (q_callC C_more tk (hr.mono (by decide)) hG (by rfl) (a_cons (p_nm 1).val (a_cons ((q_lrng rfl (by rfl) B.list (by rfl) B.range (q_b1 c_lenB g_lenB (by rfl) B.len bt_len (p_nm 1)))).fz a_nil)) [])))))), fun args Q E hl h => ?_⟩
  clear hl hr hG tk hp W EX H s outer A cdv f Df B C_more C_look C_turned C_filled
  obtain ⟨W, G, a, i, rfl, i0, i4, hW, hG, ha, h0, h1, h2, h3⟩ := h
  have hl : G.length = W.length := hG.1
  have hW100 := hW.1.2
  walk_at "nf"
  refine ⟨.inl rfl, fun z => ?_, fun z => ?_⟩
  · have e : i = 0 := by simpa [eqD, T.d] using z
    subst e
    exact ⟨W, G, a, rfl, hG.2.2, hG.1, hW.1.2, ha, fun Ls fl hd => h0 rfl Ls fl hd⟩
  have n0 : i ≠ 0 := by simpa [eqD, T.d] using z
  refine ⟨.inl rfl, fun z => ?_, fun z => ?_⟩
  · have e : i = 1 := by simpa [eqD, T.d] using z
    subst e
    refine ⟨W, G, a, rfl, hG.2.2, hG.1, hW.1.2, ha, fun Ls fl hd => ?_⟩
    refine ⟨_, at_int (by decide) rfl, ?_⟩
    refine ⟨G, rowG W G Ls fl a, rfl, by omega, fun p hp => ?_, ?_⟩
    · cases fl with
      | false => cases hp
      | true => rw [hl]; exact (row_okp hG hW100 ha hd).2.2.1 p hp
    exact h1 rfl Ls fl hd
  have n1 : i ≠ 1 := by simpa [eqD, T.d] using z
  refine ⟨.inl rfl, fun z => ?_, fun z => ?_⟩
  · have e : i = 2 := by simpa [eqD, T.d] using z
    subst e
    exact ⟨W, G, rfl, hG, hW100, fun Gf hf => h2 rfl Gf hf⟩
  have n2 : i ≠ 2 := by simpa [eqD, T.d] using z
  have e : i = 3 := by omega
  subst e
  refine ⟨by omega, szI (by rw [List.length_map]; omega), ?_⟩
  have hds : (T.ow .lst (rngD 0 (Int.toNat (((W.map intsD).length : Nat) : Int)))).d = natsL (List.range W.length) := by
    rw [List.length_map, Int.toNat_natCast]; simp [rngD, T.d]
  refine ⟨W, List.range W.length, by rw [← hds], hW.ok0, ⟨List.nodup_range, fun k hk => List.mem_range.mp hk, by rw [List.length_range]; exact hW100⟩, h3 rfl⟩
theorem ok_said (Df : DefAt K mg "_law_said" s_said ["_law_which", "_law_wants", "_law_given", "_law_at"]) (B : Bt mg) (C_more_than_wanted : Callee P w K mg base 1 "more_than_wanted" ["wants", "some"] [] moreS) (C_look_out : Callee P w K mg base 3 "look_out" ["wants", "given", "at"] [] lookS) (C_turned_along : Callee P w K mg base 1 "turned_along" ["given", "row"] [] turnS) (C_filled_from : Callee P w K mg base 4 "filled_from" ["wants", "given"] [] fillS) : Callee P w K mg base 5 "_law_said" ["_law_which", "_law_wants", "_law_given", "_law_at"] [] dueS := by
  refine callee_of Df sc_said (by decide) (by decide) fun f cdv A outer s H EX W hr hG tk hp => ?_
  refine ⟨_, (ss_cons (s_if (t_eq (hu65 hr) (p_nm 0) (q_int).p) (ss_one (s_ret (q_callC C_look_out tk (hr.mono (by decide)) hG (by rfl) (a_cons (p_nm 1).val (a_cons (p_nm 2).val (a_cons (p_nm 3).val a_nil))) []))) ss_nil)
      (ss_cons (s_if (t_eq (hu65 hr) (p_nm 0) (q_int).p) (ss_cons (s_set 4 (q_ixA (hu65 hr) ((q_callC C_look_out tk (hr.mono (by decide)) hG (by rfl) (a_cons (p_nm 1).val (a_cons (p_nm 2).val (a_cons (p_nm 3).val a_nil))) [])).p (q_int).p) sc_said.nd)
      (ss_cons (s_if (t_eq (hu65 hr) (p_nm 4) ((q_lst a_nil)).p) (ss_one (s_ret ((q_ty1 call_list_of g_list (by rfl) B.list bt_list (p_nm 2))).fz)) ss_nil)
      (ss_one (s_ret ((q_callC C_turned_along tk (hr.mono (by decide)) hG (by rfl) (a_cons (p_nm 2).val (a_cons (p_nm 4).val a_nil)) [])).fz)))) ss_nil)
      (ss_cons (s_if (t_eq (hu65 hr) (p_nm 0) (q_int).p) (ss_one (s_ret ((q_callC C_filled_from tk (hr.mono (by decide)) hG (by rfl) (a_cons (p_nm 1).val (a_cons (p_nm 2).val a_nil)) [])).fz)) ss_nil)
      (ss_one (s_ret (q_callC C_more_than_wanted tk (hr.mono (by decide)) hG (by rfl) (a_cons (p_nm 1).val (a_cons ((q_lrng rfl (by rfl) B.list (by rfl) B.range (q_b1 c_lenB g_lenB (by rfl) B.len bt_len (p_nm 1)))).fz a_nil)) [])))))), fun args Q E hl h => ?_⟩
  clear hl hr hG tk hp W EX H s outer A cdv f Df B C_more_than_wanted C_look_out C_turned_along C_filled_from
  obtain ⟨W, G, a, i, rfl, i0, i4, hW, hG, ha, h0, h1, h2, h3⟩ := h
  have hl : G.length = W.length := hG.1
  have hW100 := hW.1.2
  walk_at "nf"
  refine ⟨.inl rfl, fun z => ?_, fun z => ?_⟩
  · have e : i = 0 := by simpa [eqD, T.d] using z
    subst e
    exact ⟨W, G, a, rfl, hG.2.2, hG.1, hW.1.2, ha, fun Ls fl hd => h0 rfl Ls fl hd⟩
  have n0 : i ≠ 0 := by simpa [eqD, T.d] using z
  refine ⟨.inl rfl, fun z => ?_, fun z => ?_⟩
  · have e : i = 1 := by simpa [eqD, T.d] using z
    subst e
    refine ⟨W, G, a, rfl, hG.2.2, hG.1, hW.1.2, ha, fun Ls fl hd => ?_⟩
    refine ⟨_, at_int (by decide) rfl, ?_⟩
    have hh := h1 rfl Ls fl hd
    have hrp : ∀ p, p ∈ rowG W G Ls fl a → p.1 < G.length := fun p hp => by
      cases fl with
      | false => cases hp
      | true => rw [hl]; exact (row_okp hG hW100 ha hd).2.2.1 p hp
    change Q (.fz (givenD (turnF G (rowG W G Ls fl a)))) [] at hh
    show _
    have hrow : (if fl = true then rowF W G Ls a else []) = rowG W G Ls fl a := rfl
    rw [hrow]
    revert hh hrp
    generalize rowG W G Ls fl a = r
    intro hrp hh
    walk_at "nf"
    refine ⟨.inr ⟨pl_row, rfl⟩, fun z => ?_, fun z => ?_⟩
    · have e : r = [] := by
        cases r with
        | nil => rfl
        | cons _ _ => simp [T.d, eqD, eqDs] at z
      subst e
      exact hh
    · exact ⟨G, r, rfl, by omega, hrp, hh⟩
  have n1 : i ≠ 1 := by simpa [eqD, T.d] using z
  refine ⟨.inl rfl, fun z => ?_, fun z => ?_⟩
  · have e : i = 2 := by simpa [eqD, T.d] using z
    subst e
    exact ⟨W, G, rfl, hG, hW100, fun Gf hf => h2 rfl Gf hf⟩
  have n2 : i ≠ 2 := by simpa [eqD, T.d] using z
  have e : i = 3 := by omega
  subst e
  refine ⟨by omega, szI (by rw [List.length_map]; omega), ?_⟩
  have hds : (T.ow .lst (rngD 0 (Int.toNat (((W.map intsD).length : Nat) : Int)))).d = natsL (List.range W.length) := by
    rw [List.length_map, Int.toNat_natCast]; simp [rngD, T.d]
  refine ⟨W, List.range W.length, by rw [← hds], hW.ok0, ⟨List.nodup_range, fun k hk => List.mem_range.mp hk, by rw [List.length_range]; exact hW100⟩, h3 rfl⟩
theorem ok_law (Df : DefAt K mg "law" s_law ["_law_script"]) (B : Bt mg) (C_bag : Callee P w K mg base 1 "_law_bag" ["_law_script"] [] bagS) (C_take : Callee P w K mg base 1 "_law_take" ["_law_bag_here", "_law_many"] [0] takeS) (C_runs : Callee P w K mg base 3 "_law_runs" ["_law_bag_here"] [0] drwS) (C_chain : Callee P w K mg base 3 "_law_chain" ["_law_bag_here"] [0] drwS) (C_star : Callee P w K mg base 3 "_law_star" ["_law_bag_here"] [0] drwS) (C_alike : Callee P w K mg base 1 "_law_alike" ["_law_found", "_law_due_here"] [] alikeS) (C_said : Callee P w K mg base 5 "_law_said" ["_law_which", "_law_wants", "_law_given", "_law_at"] [] dueS) (C_due : Callee P w K mg base 4 "_law_due" ["_law_which", "_law_wants", "_law_given", "_law_at"] [] dueS) : Callee P w K mg base 6 "law" ["_law_script"] [] (lawS 63) := by
  refine callee_of Df sc_law (by decide) (by decide) fun f cdv A outer s H EX W hr hG tk hp => ?_
  refine ⟨_, (ss_cons (s_set 1 (q_callC C_bag tk (hr.mono (by decide)) hG (by rfl) (a_cons (p_nm 0).val a_nil) []) sc_law.nd)
      (ss_cons (s_set 2 (q_callC C_take tk (hr.mono (by decide)) hG (by rfl) (a_own 1 (a_cons q_int a_nil)) [1]) sc_law.nd)
      (ss_cons (s_asgTT (n := 2) rfl (q_callFL (fn_cons (fa mg "_law_runs") C_runs (fn_cons (fa mg "_law_runs") C_runs (fn_cons (fa mg "_law_chain") C_chain (fn_cons (fa mg "_law_star") C_star fn_nil)))) tk hr hG (q_ix (q_lst (a_cons (q_fnc (fa mg "_law_runs") C_runs (by rfl)) (a_cons (q_fnc (fa mg "_law_runs") C_runs (by rfl)) (a_cons (q_fnc (fa mg "_law_chain") C_chain (by rfl)) (a_cons (q_fnc (fa mg "_law_star") C_star (by rfl)) a_nil))))).p (p_nm 2)) (a_own 1 a_nil) [1]) (gt_cons 3 (gt_cons 4 gt_nil sc_law.nd) sc_law.nd))
      (ss_cons (s_setLcF 5 (own := [("_law_k", 6)]) rfl sc_law.nd (i_rng (by rfl) B.range (q_b1 c_lenB g_lenB (by rfl) B.len bt_len (p_nm 4))) (blkOk_by (by rfl)) (fun _ _ _ _ _ => (g_name 6 sc_law.nd)) (fun _ _ _ _ _ => (ts_one (t_isN ((q_ixA (hu65 hr) (p_nm 4) (p_nm 6))).p (q_non).p))) (fun _ _ _ _ _ => (p_nm 6).val))
      (ss_cons (s_if (t_eq (hu65 hr) (p_nm 5) ((q_lst a_nil)).p) (ss_cons (s_set 5 ((q_lst (a_cons (q_callC C_take tk (hr.mono (by decide)) hG (by rfl) (a_own 1 (a_cons (q_b1 c_lenB g_lenB (by rfl) B.len bt_len (p_nm 4)) a_nil)) [1]) a_nil))).fz sc_law.nd)
      (ss_one (s_store 4 q_non (q_ixA (hu65 hr) (p_nm 5) (q_int).p)))) ss_nil).cut
      (ss_cons (s_set 7 (q_ixA (hu65 hr) (p_nm 5) ((q_callC C_take tk (hr.mono (by decide)) hG (by rfl) (a_own 1 (a_cons (q_b1 c_lenB g_lenB (by rfl) B.len bt_len (p_nm 5)) a_nil)) [1])).p) sc_law.nd)
      (ss_cons (s_set 8 (q_callC C_take tk (hr.mono (by decide)) hG (by rfl) (a_own 1 (a_cons q_int a_nil)) [1]) sc_law.nd)
      (ss_cons (s_for hp rfl (i_rng (by rfl) B.range (q_ixA (hu65 hr) ((q_lst (a_cons q_int (a_cons q_int (a_cons q_int (a_cons q_int a_nil)))))).p (p_nm 2))) (g_name 6 sc_law.nd) (ss_cons (s_set 9 (q_mod ((q_add (p_nm 8) (p_nm 6))).p (q_int).p) sc_law.nd)
      (ss_cons (s_set 10 (q_tup (a_cons ((q_lc (own := [("_law_some", 11)]) rfl sc_law.nd (i_list (p_nm 3).val) (blkOk_by (by rfl)) (fun _ _ _ _ _ => (g_name 11 sc_law.nd)) (fun _ _ _ _ _ => ts_nil) (fun _ _ _ _ _ => ((q_ty1 call_list_of g_list (by rfl) B.list bt_list (p_nm 11))).fz))).fz (a_cons ((q_ty1 call_list_of g_list (by rfl) B.list bt_list (q_fzn 4).p)).fz a_nil))) sc_law.nd)
      (ss_cons (s_if (t_not (t_val (q_callC C_alike tk (hr.mono (by decide)) hG (by rfl) (a_cons (q_callC C_said tk (hr.mono (by decide)) hG (by rfl) (a_cons (p_nm 9).val (a_cons (q_ixA (hu65 hr) (p_nm 10) (q_int).p) (a_cons (q_ixA (hu65 hr) (p_nm 10) (q_int).p) (a_cons (p_nm 7).val a_nil)))) []) (a_cons (q_callC C_due tk (hr.mono (by decide)) hG (by rfl) (a_cons (p_nm 9).val (a_cons (p_nm 3).val (a_cons (q_fzn 4) (a_cons (p_nm 7).val a_nil)))) []) a_nil)) []))) (ss_one (s_ret q_bl)) ss_nil)
      (ss_one (s_if (t_ne (hu65 hr) (p_nm 10) ((q_tup (a_cons (p_nm 3).val (a_cons (q_fzn 4) a_nil)))).p) (ss_one (s_ret q_bl)) ss_nil))))))
      (ss_one (s_ret q_bl)))))))))), fun args Q E hl h => ?_⟩
  clear hl hr hG tk hp W EX H s outer A cdv f Df B C_bag C_take C_runs C_chain C_star C_alike C_said C_due
  obtain ⟨ns, rfl, hn, h⟩ := h
  walk_at "nf"
  refine ⟨ns, rfl, hn, fun t hb => ?_⟩
  walk_at "nf"
  refine ⟨_, _, rfl, hb, by decide, by decide, fun v t1 v0 v1 hb1 => ?_⟩
  walk_at "nf"
  refine at_all (C := fun d => ∃ c : Addr × SemF, c ∈ [(fa mg "_law_runs", drwS), (fa mg "_law_runs", drwS), (fa mg "_law_chain", drwS), (fa mg "_law_star", drwS)] ∧ d = .exc c.1 c.1 none [] [] ∧ c.2 = drwS) v0 v1 ?_ ?_
  · intro d hd
    simp only [List.mem_cons, List.not_mem_nil, or_false] at hd
    rcases hd with rfl | rfl | rfl | rfl
    · exact ⟨_, List.mem_cons_self, rfl, rfl⟩
    · exact ⟨_, List.mem_cons_self, rfl, rfl⟩
    · exact ⟨(fa mg "_law_chain", drwS), by simp, rfl, rfl⟩
    · exact ⟨(fa mg "_law_star", drwS), by simp, rfl, rfl⟩
  rintro _ ⟨c, hc, rfl, hc2⟩
  refine ⟨c, hc, rfl, ?_⟩
  rw [hc2]
  refine ⟨_, rfl, hb1, fun W G t2 hW hG hb2 => ?_⟩
  refine ⟨rfl, ?_⟩
  have hl : G.length = W.length := hG.1
  have hW100 := hW.1.2
  have hW1 := hW.1.1
  refine ⟨szI (by rw [List.length_map]; omega), by omega, ?_⟩
  have hds : rngD 0 (Int.toNat (((G.map giD).length : Nat) : Int)) = (List.range G.length).map fun k => D.int (k : Nat) := by
    rw [List.length_map, Int.toNat_natCast]; unfold rngD; simp
  refine .over (List.range G.length) (fun k => .int (k : Nat)) hds (fun k => decide (G[k]? = some none)) (fun k => .int (k : Nat)) (fun j k hk => ?_) ?_
  · have hk2 : k < G.length := List.mem_range.mp (List.mem_of_getElem? hk)
    have hg : G[k]? = some G[k] := List.getElem?_eq_getElem hk2
    refine ⟨giD G[k], at_of (by rw [List.getElem?_map, hg]; rfl), ?_⟩
    refine ⟨fun z => ⟨over_yes hk ?_, rfl⟩, fun z => ⟨over_no hk ?_, rfl⟩⟩
    · rw [hg]; cases e : G[k] with
      | none => rfl
      | some x => rw [e] at z; simp [giD, nonD, T.d] at z
    · rw [hg]; cases e : G[k] with
      | none => rw [e] at z; simp [giD, nonD, T.d] at z
      | some x => simp
  rw [show (List.range G.length).filter (fun k => decide (G[k]? = some none)) = empL G from rfl]
  walk_at "nf"
  refine .fr [1, 4, 5] (fun vs => ∃ (t : T) (G2 : List (Option Int)) (es : List Nat), vs = [some t, some (.ow .lst (G2.map giD)), some (.fz (natsL es))] ∧ IsBag t ∧ givenOk W G2 ∧ es ≠ [] ∧ es.length ≤ 100 ∧ ∀ k, k ∈ es → G2[k]? = some none) ?_ ?_
  · walk_at "nf"
    refine ⟨.inr ⟨pl_lst (n := 63) fun d hd => by obtain ⟨i, _, rfl⟩ := List.mem_map.mp hd; rfl, rfl⟩, fun z => ?_, fun z => ?_⟩
    · walk_at "nf"
      refine ⟨_, _, rfl, hb2, by rw [List.length_map]; omega, by rw [List.length_map]; omega, fun o t4 o0 o1 hb4 => ?_⟩
      rw [List.length_map] at o1
      walk_at "nf"
      refine ⟨rfl, .int o, at_int (by decide) rfl, o.toNat, by rw [List.length_map, ixN_of o0 (by omega)], ?_⟩
      refine ⟨[_, _, _], rfl, t4, G.set o.toNat none, [o.toNat], by rw [List.map_set, show natsL [o.toNat] = .nd .lst [.int o] by show D.nd .lst [D.int ((o.toNat : Nat) : Int)] = _; rw [Int.toNat_of_nonneg o0]]; exact rfl, hb4, given_none hG, by simp, by simp, fun k hk => ?_⟩
      simp at hk
      subst hk
      exact List.getElem?_set_self (by omega)
    · have hne : empL G ≠ [] := fun e => by rw [e] at z; cases z
      refine ⟨[_, _, _], rfl, t2, G, empL G, rfl, hb2, hG, hne, Nat.le_trans (List.length_filter_le _ _) (by rw [List.length_range]; omega), fun k hk => mem_emp.mp hk⟩
  rintro vs ⟨t3, G2, es, rfl, hb3, hG2, hne, hel, hes⟩
  have hl2 : G2.length = W.length := hG2.1
  have hpos := List.length_pos_iff.mpr hne
  walk_at "nf"
  refine ⟨_, _, rfl, hb3, by rw [List.length_map]; omega, by rw [List.length_map]; omega, fun o t4 o0 o1 hb4 => ?_⟩
  rw [List.length_map] at o1
  obtain ⟨d, ed, hm⟩ := at_lt (ds := es.map fun k => D.int (k : Nat)) o0 (by rw [List.length_map]; exact o1)
  obtain ⟨a, haes, rfl⟩ := List.mem_map.mp hm
  have hga := hes a haes
  have ha : a < W.length := by rw [← hl2]; exact (List.getElem?_eq_some_iff.mp hga).1
  refine ⟨_, ed, ?_⟩
  walk_at "nf"
  refine ⟨_, _, rfl, hb4, by decide, by decide, fun f t5 f0 f1 hb5 => ?_⟩
  walk_at "nf"
  refine at_all (C := fun d => ∃ n : Int, d = .int n ∧ 0 ≤ n ∧ n ≤ 8) v0 v1 ?_ ?_
  · intro d hd
    simp at hd
    rcases hd with rfl | rfl <;> exact ⟨_, rfl, by decide, by decide⟩
  rintro _ ⟨n, rfl, n0, n8⟩
  refine ⟨szI (by omega), by omega, ?_⟩
  refine .rng [4, 6, 9, 10] (fun j vs => ∃ tg x y z, vs = [some tg, x, y, z] ∧ (tg = .ow .lst (G2.map giD) ∨ tg = .fz (givenD G2))) ⟨[_, _, _, _], rfl, _, _, _, _, rfl, .inl rfl⟩ ?_ ?_
  · rintro j vs hj ⟨tg, x, y, z, rfl, htg⟩
    obtain ⟨i, hi⟩ : ∃ i : Int, (f + (0 + (j : Nat))) % 4 = i := ⟨_, rfl⟩
    have i0 : 0 ≤ i := by rw [← hi]; exact Int.emod_nonneg _ (by decide)
    have i4 : i < 4 := by rw [← hi]; exact Int.emod_lt_of_pos _ (by decide)
    rcases htg with rfl | rfl
    all_goals
      walk_at "nf"
      refine ⟨show (0 : Int) < 4 by decide, ?_⟩
      refine .each W intsD rfl intsD (fun j r hj => ⟨fun _ => ⟨all_one hj, rfl⟩, fun z => nomatch z⟩) ?_
      refine ⟨_, at_int (by decide) rfl, _, at_int (by decide) rfl, ?_⟩
      have ht : (D.nd .tup [wantsD W, givenD G2]).pl 64 = true := by rw [D.pl]; simp [Dspl, pl_wants, pl_given]
      rcases (show i = 0 ∨ i = 1 ∨ i = 2 ∨ i = 3 by omega) with rfl | rfl | rfl | rfl
      · refine ⟨W, G2, a, _, rfl, by rw [hi]; decide, by rw [hi]; decide, hW, hG2, ha, fun _ Ls fl hd => ?_, fun e => absurd (hi.symm.trans e) (by decide), fun e => absurd (hi.symm.trans e) (by decide), fun e => absurd (hi.symm.trans e) (by decide)⟩
        refine ⟨W, G2, a, _, rfl, by rw [hi]; decide, by rw [hi]; decide, hW, hG2, ha, fun _ Ls2 fl2 hd2 => ?_, fun e => absurd (hi.symm.trans e) (by decide), fun e => absurd (hi.symm.trans e) (by decide), fun e => absurd (hi.symm.trans e) (by decide)⟩
        obtain ⟨e1, e2⟩ := hd.det hd2
        subst e1 e2
        obtain ⟨p1, p2⟩ := al_look hW hG2 ha hd
        refine ⟨_, rfl, p1, p2, fun z => (nomatch z), fun _ => ?_⟩
        refine ⟨.inr ⟨ht, ht⟩, fun z => ?_, fun z => ?_⟩
        · exfalso
          have z2 : (!eqD (D.nd .tup [wantsD W, givenD G2]) (D.nd .tup [wantsD W, givenD G2])) = true := z
          rw [eqD_self 64 _ ht] at z2
          cases z2
        · exact ⟨[_, _, _, _], rfl, _, _, _, _, rfl, .inr rfl⟩
      · refine ⟨W, G2, a, _, rfl, by rw [hi]; decide, by rw [hi]; decide, hW, hG2, ha, fun e => absurd (hi.symm.trans e) (by decide), fun _ Ls fl hd => ?_, fun e => absurd (hi.symm.trans e) (by decide), fun e => absurd (hi.symm.trans e) (by decide)⟩
        refine ⟨W, G2, a, _, rfl, by rw [hi]; decide, by rw [hi]; decide, hW, hG2, ha, fun e => absurd (hi.symm.trans e) (by decide), fun _ Ls2 fl2 hd2 => ?_, fun e => absurd (hi.symm.trans e) (by decide), fun e => absurd (hi.symm.trans e) (by decide)⟩
        obtain ⟨e1, e2⟩ := hd.det hd2
        subst e1 e2
        obtain ⟨p1, p2⟩ := al_given hW (rowG_ok hW hG2 ha hd).2.2
        refine ⟨_, rfl, p1, p2, fun z => (nomatch z), fun _ => ?_⟩
        refine ⟨.inr ⟨ht, ht⟩, fun z => ?_, fun z => ?_⟩
        · exfalso
          have z2 : (!eqD (D.nd .tup [wantsD W, givenD G2]) (D.nd .tup [wantsD W, givenD G2])) = true := z
          rw [eqD_self 64 _ ht] at z2
          cases z2
        · exact ⟨[_, _, _, _], rfl, _, _, _, _, rfl, .inr rfl⟩
      · refine ⟨W, G2, a, _, rfl, by rw [hi]; decide, by rw [hi]; decide, hW, hG2, ha, fun e => absurd (hi.symm.trans e) (by decide), fun e => absurd (hi.symm.trans e) (by decide), fun _ Gf hf => ?_, fun e => absurd (hi.symm.trans e) (by decide)⟩
        refine ⟨W, G2, a, _, rfl, by rw [hi]; decide, by rw [hi]; decide, hW, hG2, ha, fun e => absurd (hi.symm.trans e) (by decide), fun e => absurd (hi.symm.trans e) (by decide), fun _ Gf2 hf2 => ?_, fun e => absurd (hi.symm.trans e) (by decide)⟩
        have e1 := hf.det hf2
        subst e1
        obtain ⟨p1, p2⟩ := al_given hW (hf.ok hG2 hW100 (Nat.le_refl _)).ok
        refine ⟨_, rfl, p1, p2, fun z => (nomatch z), fun _ => ?_⟩
        refine ⟨.inr ⟨ht, ht⟩, fun z => ?_, fun z => ?_⟩
        · exfalso
          have z2 : (!eqD (D.nd .tup [wantsD W, givenD G2]) (D.nd .tup [wantsD W, givenD G2])) = true := z
          rw [eqD_self 64 _ ht] at z2
          cases z2
        · exact ⟨[_, _, _, _], rfl, _, _, _, _, rfl, .inr rfl⟩
      · refine ⟨W, G2, a, _, rfl, by rw [hi]; decide, by rw [hi]; decide, hW, hG2, ha, fun e => absurd (hi.symm.trans e) (by decide), fun e => absurd (hi.symm.trans e) (by decide), fun e => absurd (hi.symm.trans e) (by decide), fun _ => ?_⟩
        refine ⟨W, G2, a, _, rfl, by rw [hi]; decide, by rw [hi]; decide, hW, hG2, ha, fun e => absurd (hi.symm.trans e) (by decide), fun e => absurd (hi.symm.trans e) (by decide), fun e => absurd (hi.symm.trans e) (by decide), fun _ => ?_⟩
        obtain ⟨p1, p2⟩ := al_int (moreV_bd hW)
        refine ⟨_, rfl, p1, p2, fun z => (nomatch z), fun _ => ?_⟩
        refine ⟨.inr ⟨ht, ht⟩, fun z => ?_, fun z => ?_⟩
        · exfalso
          have z2 : (!eqD (D.nd .tup [wantsD W, givenD G2]) (D.nd .tup [wantsD W, givenD G2])) = true := z
          rw [eqD_self 64 _ ht] at z2
          cases z2
        · exact ⟨[_, _, _, _], rfl, _, _, _, _, rfl, .inr rfl⟩
  · rintro vs ⟨tg, x, y, z, rfl, htg⟩
    exact h

end
theorem all_mk {P : Program} {w : World} {K : PySem.W.Frag} {h : Heap} {mg : Str → Option Value} (X : K.In h) (G : h.Ns mainGlobals mg) (base : Heap)
    {f0 : Addr} {od0 an0 : Option Addr} {sl0 : Array (Option Value)} {oc0 kV0 dc0 pm0 cd0 ct0 : Value}
    {f1 : Addr} {od1 an1 : Option Addr} {sl1 : Array (Option Value)} {oc1 kV1 dc1 pm1 cd1 ct1 : Value}
    {f2 : Addr} {od2 an2 : Option Addr} {sl2 : Array (Option Value)} {oc2 kV2 dc2 pm2 cd2 ct2 : Value}
    {f3 : Addr} {od3 an3 : Option Addr} {sl3 : Array (Option Value)} {oc3 kV3 dc3 pm3 cd3 ct3 : Value}
    {f4 : Addr} {od4 an4 : Option Addr} {sl4 : Array (Option Value)} {oc4 kV4 dc4 pm4 cd4 ct4 : Value}
    {f5 : Addr} {od5 an5 : Option Addr} {sl5 : Array (Option Value)} {oc5 kV5 dc5 pm5 cd5 ct5 : Value}
    {f6 : Addr} {od6 an6 : Option Addr} {sl6 : Array (Option Value)} {oc6 kV6 dc6 pm6 cd6 ct6 : Value}
    {f7 : Addr} {od7 an7 : Option Addr} {sl7 : Array (Option Value)} {oc7 kV7 dc7 pm7 cd7 ct7 : Value}
    {f8 : Addr} {od8 an8 : Option Addr} {sl8 : Array (Option Value)} {oc8 kV8 dc8 pm8 cd8 ct8 : Value}
    {f9 : Addr} {od9 an9 : Option Addr} {sl9 : Array (Option Value)} {oc9 kV9 dc9 pm9 cd9 ct9 : Value}
    {f10 : Addr} {od10 an10 : Option Addr} {sl10 : Array (Option Value)} {oc10 kV10 dc10 pm10 cd10 ct10 : Value}
    {f11 : Addr} {od11 an11 : Option Addr} {sl11 : Array (Option Value)} {oc11 kV11 dc11 pm11 cd11 ct11 : Value}
    {f12 : Addr} {od12 an12 : Option Addr} {sl12 : Array (Option Value)} {oc12 kV12 dc12 pm12 cd12 ct12 : Value}
    {f13 : Addr} {od13 an13 : Option Addr} {sl13 : Array (Option Value)} {oc13 kV13 dc13 pm13 cd13 ct13 : Value}
    {f14 : Addr} {od14 an14 : Option Addr} {sl14 : Array (Option Value)} {oc14 kV14 dc14 pm14 cd14 ct14 : Value}
    {f15 : Addr} {od15 an15 : Option Addr} {sl15 : Array (Option Value)} {oc15 kV15 dc15 pm15 cd15 ct15 : Value}
    {f16 : Addr} {od16 an16 : Option Addr} {sl16 : Array (Option Value)} {oc16 kV16 dc16 pm16 cd16 ct16 : Value}
    {f17 : Addr} {od17 an17 : Option Addr} {sl17 : Array (Option Value)} {oc17 kV17 dc17 pm17 cd17 ct17 : Value}
    {f18 : Addr} {od18 an18 : Option Addr} {sl18 : Array (Option Value)} {oc18 kV18 dc18 pm18 cd18 ct18 : Value}
    {f19 : Addr} {od19 an19 : Option Addr} {sl19 : Array (Option Value)} {oc19 kV19 dc19 pm19 cd19 ct19 : Value}
    {f20 : Addr} {od20 an20 : Option Addr} {sl20 : Array (Option Value)} {oc20 kV20 dc20 pm20 cd20 ct20 : Value}
    {f21 : Addr} {od21 an21 : Option Addr} {sl21 : Array (Option Value)} {oc21 kV21 dc21 pm21 cd21 ct21 : Value}
    {f22 : Addr} {od22 an22 : Option Addr} {sl22 : Array (Option Value)} {oc22 kV22 dc22 pm22 cd22 ct22 : Value}
    {f23 : Addr} {od23 an23 : Option Addr} {sl23 : Array (Option Value)} {oc23 kV23 dc23 pm23 cd23 ct23 : Value}
    (a0 : PySem.W.nsIn K mainGlobals "holders_of" = some (some (.ref f0))) (l0 : K.lookup f0 = some ⟨oc0, od0, .func (PySem.W.fnOf "holders_of" "holders_of" (defArgs s_holders_of) (defBody s_holders_of) (defScope s_holders_of) .none kV0 dc0 pm0 an0 cd0 ct0), sl0⟩) (c0 : PySem.W.codeIn K cd0 "holders_of" = true) (k0 : PySem.W.keepIn K (.ref f0) = true)
    (a1 : PySem.W.nsIn K mainGlobals "has_free_right" = some (some (.ref f1))) (l1 : K.lookup f1 = some ⟨oc1, od1, .func (PySem.W.fnOf "has_free_right" "has_free_right" (defArgs s_has_free_right) (defBody s_has_free_right) (defScope s_has_free_right) .none kV1 dc1 pm1 an1 cd1 ct1), sl1⟩) (c1 : PySem.W.codeIn K cd1 "has_free_right" = true) (k1 : PySem.W.keepIn K (.ref f1) = true)
    (a2 : PySem.W.nsIn K mainGlobals "layers_from" = some (some (.ref f2))) (l2 : K.lookup f2 = some ⟨oc2, od2, .func (PySem.W.fnOf "layers_from" "layers_from" (defArgs s_layers_from) (defBody s_layers_from) (defScope s_layers_from) .none kV2 dc2 pm2 an2 cd2 ct2), sl2⟩) (c2 : PySem.W.codeIn K cd2 "layers_from" = true) (k2 : PySem.W.keepIn K (.ref f2) = true)
    (a3 : PySem.W.nsIn K mainGlobals "leading_rights" = some (some (.ref f3))) (l3 : K.lookup f3 = some ⟨oc3, od3, .func (PySem.W.fnOf "leading_rights" "leading_rights" (defArgs s_leading_rights) (defBody s_leading_rights) (defScope s_leading_rights) .none kV3 dc3 pm3 an3 cd3 ct3), sl3⟩) (c3 : PySem.W.codeIn K cd3 "leading_rights" = true) (k3 : PySem.W.keepIn K (.ref f3) = true)
    (a4 : PySem.W.nsIn K mainGlobals "look_out" = some (some (.ref f4))) (l4 : K.lookup f4 = some ⟨oc4, od4, .func (PySem.W.fnOf "look_out" "look_out" (defArgs s_look_out) (defBody s_look_out) (defScope s_look_out) .none kV4 dc4 pm4 an4 cd4 ct4), sl4⟩) (c4 : PySem.W.codeIn K cd4 "look_out" = true) (k4 : PySem.W.keepIn K (.ref f4) = true)
    (a5 : PySem.W.nsIn K mainGlobals "turned_along" = some (some (.ref f5))) (l5 : K.lookup f5 = some ⟨oc5, od5, .func (PySem.W.fnOf "turned_along" "turned_along" (defArgs s_turned_along) (defBody s_turned_along) (defScope s_turned_along) .none kV5 dc5 pm5 an5 cd5 ct5), sl5⟩) (c5 : PySem.W.codeIn K cd5 "turned_along" = true) (k5 : PySem.W.keepIn K (.ref f5) = true)
    (a6 : PySem.W.nsIn K mainGlobals "filled_from" = some (some (.ref f6))) (l6 : K.lookup f6 = some ⟨oc6, od6, .func (PySem.W.fnOf "filled_from" "filled_from" (defArgs s_filled_from) (defBody s_filled_from) (defScope s_filled_from) .none kV6 dc6 pm6 an6 cd6 ct6), sl6⟩) (c6 : PySem.W.codeIn K cd6 "filled_from" = true) (k6 : PySem.W.keepIn K (.ref f6) = true)
    (a7 : PySem.W.nsIn K mainGlobals "more_than_wanted" = some (some (.ref f7))) (l7 : K.lookup f7 = some ⟨oc7, od7, .func (PySem.W.fnOf "more_than_wanted" "more_than_wanted" (defArgs s_more_than_wanted) (defBody s_more_than_wanted) (defScope s_more_than_wanted) .none kV7 dc7 pm7 an7 cd7 ct7), sl7⟩) (c7 : PySem.W.codeIn K cd7 "more_than_wanted" = true) (k7 : PySem.W.keepIn K (.ref f7) = true)
    (a8 : PySem.W.nsIn K mainGlobals "_law_bag" = some (some (.ref f8))) (l8 : K.lookup f8 = some ⟨oc8, od8, .func (PySem.W.fnOf "_law_bag" "_law_bag" (defArgs s_bag) (defBody s_bag) (defScope s_bag) .none kV8 dc8 pm8 an8 cd8 ct8), sl8⟩) (c8 : PySem.W.codeIn K cd8 "_law_bag" = true) (k8 : PySem.W.keepIn K (.ref f8) = true)
    (a9 : PySem.W.nsIn K mainGlobals "_law_take" = some (some (.ref f9))) (l9 : K.lookup f9 = some ⟨oc9, od9, .func (PySem.W.fnOf "_law_take" "_law_take" (defArgs s_take) (defBody s_take) (defScope s_take) .none kV9 dc9 pm9 an9 cd9 ct9), sl9⟩) (c9 : PySem.W.codeIn K cd9 "_law_take" = true) (k9 : PySem.W.keepIn K (.ref f9) = true)
    (a10 : PySem.W.nsIn K mainGlobals "_law_alike" = some (some (.ref f10))) (l10 : K.lookup f10 = some ⟨oc10, od10, .func (PySem.W.fnOf "_law_alike" "_law_alike" (defArgs s_alike) (defBody s_alike) (defScope s_alike) .none kV10 dc10 pm10 an10 cd10 ct10), sl10⟩) (c10 : PySem.W.codeIn K cd10 "_law_alike" = true) (k10 : PySem.W.keepIn K (.ref f10) = true)
    (a11 : PySem.W.nsIn K mainGlobals "_law_mixed" = some (some (.ref f11))) (l11 : K.lookup f11 = some ⟨oc11, od11, .func (PySem.W.fnOf "_law_mixed" "_law_mixed" (defArgs s_mixed) (defBody s_mixed) (defScope s_mixed) .none kV11 dc11 pm11 an11 cd11 ct11), sl11⟩) (c11 : PySem.W.codeIn K cd11 "_law_mixed" = true) (k11 : PySem.W.keepIn K (.ref f11) = true)
    (a12 : PySem.W.nsIn K mainGlobals "_law_runs" = some (some (.ref f12))) (l12 : K.lookup f12 = some ⟨oc12, od12, .func (PySem.W.fnOf "_law_runs" "_law_runs" (defArgs s_runs) (defBody s_runs) (defScope s_runs) .none kV12 dc12 pm12 an12 cd12 ct12), sl12⟩) (c12 : PySem.W.codeIn K cd12 "_law_runs" = true) (k12 : PySem.W.keepIn K (.ref f12) = true)
    (a13 : PySem.W.nsIn K mainGlobals "_law_chain" = some (some (.ref f13))) (l13 : K.lookup f13 = some ⟨oc13, od13, .func (PySem.W.fnOf "_law_chain" "_law_chain" (defArgs s_chain) (defBody s_chain) (defScope s_chain) .none kV13 dc13 pm13 an13 cd13 ct13), sl13⟩) (c13 : PySem.W.codeIn K cd13 "_law_chain" = true) (k13 : PySem.W.keepIn K (.ref f13) = true)
    (a14 : PySem.W.nsIn K mainGlobals "_law_star" = some (some (.ref f14))) (l14 : K.lookup f14 = some ⟨oc14, od14, .func (PySem.W.fnOf "_law_star" "_law_star" (defArgs s_star) (defBody s_star) (defScope s_star) .none kV14 dc14 pm14 an14 cd14 ct14), sl14⟩) (c14 : PySem.W.codeIn K cd14 "_law_star" = true) (k14 : PySem.W.keepIn K (.ref f14) = true)
    (a15 : PySem.W.nsIn K mainGlobals "_law_rounds" = some (some (.ref f15))) (l15 : K.lookup f15 = some ⟨oc15, od15, .func (PySem.W.fnOf "_law_rounds" "_law_rounds" (defArgs s_rounds) (defBody s_rounds) (defScope s_rounds) .none kV15 dc15 pm15 an15 cd15 ct15), sl15⟩) (c15 : PySem.W.codeIn K cd15 "_law_rounds" = true) (k15 : PySem.W.keepIn K (.ref f15) = true)
    (a16 : PySem.W.nsIn K mainGlobals "_law_look" = some (some (.ref f16))) (l16 : K.lookup f16 = some ⟨oc16, od16, .func (PySem.W.fnOf "_law_look" "_law_look" (defArgs s_look) (defBody s_look) (defScope s_look) .none kV16 dc16 pm16 an16 cd16 ct16), sl16⟩) (c16 : PySem.W.codeIn K cd16 "_law_look" = true) (k16 : PySem.W.keepIn K (.ref f16) = true)
    (a17 : PySem.W.nsIn K mainGlobals "_law_leads" = some (some (.ref f17))) (l17 : K.lookup f17 = some ⟨oc17, od17, .func (PySem.W.fnOf "_law_leads" "_law_leads" (defArgs s_leads) (defBody s_leads) (defScope s_leads) .none kV17 dc17 pm17 an17 cd17 ct17), sl17⟩) (c17 : PySem.W.codeIn K cd17 "_law_leads" = true) (k17 : PySem.W.keepIn K (.ref f17) = true)
    (a18 : PySem.W.nsIn K mainGlobals "_law_turned" = some (some (.ref f18))) (l18 : K.lookup f18 = some ⟨oc18, od18, .func (PySem.W.fnOf "_law_turned" "_law_turned" (defArgs s_turned) (defBody s_turned) (defScope s_turned) .none kV18 dc18 pm18 an18 cd18 ct18), sl18⟩) (c18 : PySem.W.codeIn K cd18 "_law_turned" = true) (k18 : PySem.W.keepIn K (.ref f18) = true)
    (a19 : PySem.W.nsIn K mainGlobals "_law_filled" = some (some (.ref f19))) (l19 : K.lookup f19 = some ⟨oc19, od19, .func (PySem.W.fnOf "_law_filled" "_law_filled" (defArgs s_filled) (defBody s_filled) (defScope s_filled) .none kV19 dc19 pm19 an19 cd19 ct19), sl19⟩) (c19 : PySem.W.codeIn K cd19 "_law_filled" = true) (k19 : PySem.W.keepIn K (.ref f19) = true)
    (a20 : PySem.W.nsIn K mainGlobals "_law_more" = some (some (.ref f20))) (l20 : K.lookup f20 = some ⟨oc20, od20, .func (PySem.W.fnOf "_law_more" "_law_more" (defArgs s_more) (defBody s_more) (defScope s_more) .none kV20 dc20 pm20 an20 cd20 ct20), sl20⟩) (c20 : PySem.W.codeIn K cd20 "_law_more" = true) (k20 : PySem.W.keepIn K (.ref f20) = true)
    (a21 : PySem.W.nsIn K mainGlobals "_law_due" = some (some (.ref f21))) (l21 : K.lookup f21 = some ⟨oc21, od21, .func (PySem.W.fnOf "_law_due" "_law_due" (defArgs s_due) (defBody s_due) (defScope s_due) .none kV21 dc21 pm21 an21 cd21 ct21), sl21⟩) (c21 : PySem.W.codeIn K cd21 "_law_due" = true) (k21 : PySem.W.keepIn K (.ref f21) = true)
    (a22 : PySem.W.nsIn K mainGlobals "_law_said" = some (some (.ref f22))) (l22 : K.lookup f22 = some ⟨oc22, od22, .func (PySem.W.fnOf "_law_said" "_law_said" (defArgs s_said) (defBody s_said) (defScope s_said) .none kV22 dc22 pm22 an22 cd22 ct22), sl22⟩) (c22 : PySem.W.codeIn K cd22 "_law_said" = true) (k22 : PySem.W.keepIn K (.ref f22) = true)
    (a23 : PySem.W.nsIn K mainGlobals "law" = some (some (.ref f23))) (l23 : K.lookup f23 = some ⟨oc23, od23, .func (PySem.W.fnOf "law" "law" (defArgs s_law) (defBody s_law) (defScope s_law) .none kV23 dc23 pm23 an23 cd23 ct23), sl23⟩) (c23 : PySem.W.codeIn K cd23 "law" = true) (k23 : PySem.W.keepIn K (.ref f23) = true)
    (z0 : PySem.W.nsIn K mainGlobals "abs" = some none)
    (z1 : PySem.W.nsIn K mainGlobals "dict" = some none)
    (z2 : PySem.W.nsIn K mainGlobals "enumerate" = some none)
    (z3 : PySem.W.nsIn K mainGlobals "len" = some none)
    (z4 : PySem.W.nsIn K mainGlobals "list" = some none)
    (z5 : PySem.W.nsIn K mainGlobals "range" = some none)
    (z6 : PySem.W.nsIn K mainGlobals "repr" = some none)
    (z7 : PySem.W.nsIn K mainGlobals "reversed" = some none)
    (z8 : PySem.W.nsIn K mainGlobals "sorted" = some none)
    : Callee P w K mg base 6 "law" ["_law_script"] [] (lawS 63) := by
  have B : Bt mg := ⟨PySem.W.mg_none_of X G z0, PySem.W.mg_none_of X G z1, PySem.W.mg_none_of X G z2, PySem.W.mg_none_of X G z3, PySem.W.mg_none_of X G z4, PySem.W.mg_none_of X G z5, PySem.W.mg_none_of X G z6, PySem.W.mg_none_of X G z7, PySem.W.mg_none_of X G z8⟩
  have D_holders_of : DefAt K mg "holders_of" s_holders_of ["given"] := def_at X G a0 l0 c0 k0 fun _ _ _ _ _ _ us hl => match us, hl with | [_], _ => rfl
  have D_has_free_right : DefAt K mg "has_free_right" s_has_free_right ["wants", "held", "layer"] := def_at X G a1 l1 c1 k1 fun _ _ _ _ _ _ us hl => match us, hl with | [_, _, _], _ => rfl
  have D_layers_from : DefAt K mg "layers_from" s_layers_from ["wants", "held", "at"] := def_at X G a2 l2 c2 k2 fun _ _ _ _ _ _ us hl => match us, hl with | [_, _, _], _ => rfl
  have D_leading_rights : DefAt K mg "leading_rights" s_leading_rights ["wants", "held", "layers"] := def_at X G a3 l3 c3 k3 fun _ _ _ _ _ _ us hl => match us, hl with | [_, _, _], _ => rfl
  have D_look_out : DefAt K mg "look_out" s_look_out ["wants", "given", "at"] := def_at X G a4 l4 c4 k4 fun _ _ _ _ _ _ us hl => match us, hl with | [_, _, _], _ => rfl
  have D_turned_along : DefAt K mg "turned_along" s_turned_along ["given", "row"] := def_at X G a5 l5 c5 k5 fun _ _ _ _ _ _ us hl => match us, hl with | [_, _], _ => rfl
  have D_filled_from : DefAt K mg "filled_from" s_filled_from ["wants", "given"] := def_at X G a6 l6 c6 k6 fun _ _ _ _ _ _ us hl => match us, hl with | [_, _], _ => rfl
  have D_more_than_wanted : DefAt K mg "more_than_wanted" s_more_than_wanted ["wants", "some"] := def_at X G a7 l7 c7 k7 fun _ _ _ _ _ _ us hl => match us, hl with | [_, _], _ => rfl
  have D_bag : DefAt K mg "_law_bag" s_bag ["_law_script"] := def_at X G a8 l8 c8 k8 fun _ _ _ _ _ _ us hl => match us, hl with | [_], _ => rfl
  have D_take : DefAt K mg "_law_take" s_take ["_law_bag_here", "_law_many"] := def_at X G a9 l9 c9 k9 fun _ _ _ _ _ _ us hl => match us, hl with | [_, _], _ => rfl
  have D_alike : DefAt K mg "_law_alike" s_alike ["_law_found", "_law_due_here"] := def_at X G a10 l10 c10 k10 fun _ _ _ _ _ _ us hl => match us, hl with | [_, _], _ => rfl
  have D_mixed : DefAt K mg "_law_mixed" s_mixed ["_law_bag_here", "_law_many"] := def_at X G a11 l11 c11 k11 fun _ _ _ _ _ _ us hl => match us, hl with | [_, _], _ => rfl
  have D_runs : DefAt K mg "_law_runs" s_runs ["_law_bag_here"] := def_at X G a12 l12 c12 k12 fun _ _ _ _ _ _ us hl => match us, hl with | [_], _ => rfl
  have D_chain : DefAt K mg "_law_chain" s_chain ["_law_bag_here"] := def_at X G a13 l13 c13 k13 fun _ _ _ _ _ _ us hl => match us, hl with | [_], _ => rfl
  have D_star : DefAt K mg "_law_star" s_star ["_law_bag_here"] := def_at X G a14 l14 c14 k14 fun _ _ _ _ _ _ us hl => match us, hl with | [_], _ => rfl
  have D_rounds : DefAt K mg "_law_rounds" s_rounds ["_law_wants", "_law_held", "_law_at"] := def_at X G a15 l15 c15 k15 fun _ _ _ _ _ _ us hl => match us, hl with | [_, _, _], _ => rfl
  have D_look : DefAt K mg "_law_look" s_look ["_law_wants", "_law_given", "_law_at"] := def_at X G a16 l16 c16 k16 fun _ _ _ _ _ _ us hl => match us, hl with | [_, _, _], _ => rfl
  have D_leads : DefAt K mg "_law_leads" s_leads ["_law_held", "_law_good", "_law_right"] := def_at X G a17 l17 c17 k17 fun _ _ _ _ _ _ us hl => match us, hl with | [_, _, _], _ => rfl
  have D_turned : DefAt K mg "_law_turned" s_turned ["_law_given", "_law_row"] := def_at X G a18 l18 c18 k18 fun _ _ _ _ _ _ us hl => match us, hl with | [_, _], _ => rfl
  have D_filled : DefAt K mg "_law_filled" s_filled ["_law_wants", "_law_given"] := def_at X G a19 l19 c19 k19 fun _ _ _ _ _ _ us hl => match us, hl with | [_, _], _ => rfl
  have D_more : DefAt K mg "_law_more" s_more ["_law_wants", "_law_some"] := def_at X G a20 l20 c20 k20 fun _ _ _ _ _ _ us hl => match us, hl with | [_, _], _ => rfl
  have D_due : DefAt K mg "_law_due" s_due ["_law_which", "_law_wants", "_law_given", "_law_at"] := def_at X G a21 l21 c21 k21 fun _ _ _ _ _ _ us hl => match us, hl with | [_, _, _, _], _ => rfl
  have D_said : DefAt K mg "_law_said" s_said ["_law_which", "_law_wants", "_law_given", "_law_at"] := def_at X G a22 l22 c22 k22 fun _ _ _ _ _ _ us hl => match us, hl with | [_, _, _, _], _ => rfl
  have D_law : DefAt K mg "law" s_law ["_law_script"] := def_at X G a23 l23 c23 k23 fun _ _ _ _ _ _ us hl => match us, hl with | [_], _ => rfl
  have C_bag : Callee P w K mg base 1 "_law_bag" ["_law_script"] [] bagS := ok_bag D_bag B
  have C_take : Callee P w K mg base 1 "_law_take" ["_law_bag_here", "_law_many"] [0] takeS := ok_take D_take B
  have C_mixed : Callee P w K mg base 2 "_law_mixed" ["_law_bag_here", "_law_many"] [0] mixedS := ok_mixed D_mixed B C_take
  have C_runs : Callee P w K mg base 3 "_law_runs" ["_law_bag_here"] [0] drwS := ok_runs D_runs B C_mixed C_take
  have C_chain : Callee P w K mg base 3 "_law_chain" ["_law_bag_here"] [0] drwS := ok_chain D_chain B C_mixed C_take
  have C_star : Callee P w K mg base 3 "_law_star" ["_law_bag_here"] [0] drwS := ok_star D_star B C_mixed C_take
  have C_alike : Callee P w K mg base 1 "_law_alike" ["_law_found", "_law_due_here"] [] alikeS := ok_alike D_alike B
  have C_more_than_wanted : Callee P w K mg base 1 "more_than_wanted" ["wants", "some"] [] moreS := ok_more_than_wanted D_more_than_wanted B
  have C_holders_of : Callee P w K mg base 1 "holders_of" ["given"] [] holdS := ok_holders_of D_holders_of B
  have C_has_free_right : Callee P w K mg base 1 "has_free_right" ["wants", "held", "layer"] [] freeS := ok_has_free_right D_has_free_right
  have C_layers_from : Callee P w K mg base 2 "layers_from" ["wants", "held", "at"] [] layS := ok_layers_from D_layers_from B C_has_free_right
  have C_leading_rights : Callee P w K mg base 1 "leading_rights" ["wants", "held", "layers"] [] leadS := ok_leading_rights D_leading_rights B
  have C_look_out : Callee P w K mg base 3 "look_out" ["wants", "given", "at"] [] lookS := ok_look_out D_look_out C_holders_of C_layers_from C_leading_rights C_has_free_right
  have C_turned_along : Callee P w K mg base 1 "turned_along" ["given", "row"] [] turnS := ok_turned_along D_turned_along B
  have C_filled_from : Callee P w K mg base 4 "filled_from" ["wants", "given"] [] fillS := ok_filled_from D_filled_from B C_turned_along C_look_out
  have C_said : Callee P w K mg base 5 "_law_said" ["_law_which", "_law_wants", "_law_given", "_law_at"] [] dueS := ok_said D_said B C_more_than_wanted C_look_out C_turned_along C_filled_from
  have C_more : Callee P w K mg base 1 "_law_more" ["_law_wants", "_law_some"] [] moreS := ok_more D_more B
  have C_rounds : Callee P w K mg base 1 "_law_rounds" ["_law_wants", "_law_held", "_law_at"] [] rndS := ok_rounds D_rounds B
  have C_leads : Callee P w K mg base 1 "_law_leads" ["_law_held", "_law_good", "_law_right"] [] lleadsS := ok_leads D_leads
  have C_look : Callee P w K mg base 2 "_law_look" ["_law_wants", "_law_given", "_law_at"] [] llookS := ok_look D_look B C_rounds C_leads
  have C_turned : Callee P w K mg base 1 "_law_turned" ["_law_given", "_law_row"] [] turnS := ok_turned D_turned B
  have C_filled : Callee P w K mg base 3 "_law_filled" ["_law_wants", "_law_given"] [] fillS := ok_filled D_filled B C_turned C_look
  have C_due : Callee P w K mg base 4 "_law_due" ["_law_which", "_law_wants", "_law_given", "_law_at"] [] dueS := ok_due D_due B C_more C_look C_turned C_filled
  have C_law : Callee P w K mg base 6 "law" ["_law_script"] [] (lawS 63) := ok_law D_law B C_bag C_take C_runs C_chain C_star C_alike C_said C_due
  exact C_law
end My
open PySem PySem.W PyProof.Rows
set_option maxHeartbeats 0 in
theorem PySem.Challenge.cw_bedstone_k30_wide_and_long_holds : PySem.Challenge.rw_bedstone_k30_wide_and_long.Holds := by
  w_on; o_law; k_head; (case hw => w_witness2)
  k_fill
  refine QV.walk_ofG (l := PySem.Challenge.rw_bedstone_k30_wide_and_long) (n := 63) (k := 6) (x := "_law_script") rfl (by decide) rfl ⟨rfl, by decide, by decide⟩ (fun w h Y => PySem.W.kIn_of Y) ?F
  case F =>
    intro w mg h KX G base
    refine' My.all_mk KX G base ?a0 ?l0 ?c0 ?k0 ?a1 ?l1 ?c1 ?k1 ?a2 ?l2 ?c2 ?k2 ?a3 ?l3 ?c3 ?k3 ?a4 ?l4 ?c4 ?k4 ?a5 ?l5 ?c5 ?k5 ?a6 ?l6 ?c6 ?k6 ?a7 ?l7 ?c7 ?k7 ?a8 ?l8 ?c8 ?k8 ?a9 ?l9 ?c9 ?k9 ?a10 ?l10 ?c10 ?k10 ?a11 ?l11 ?c11 ?k11 ?a12 ?l12 ?c12 ?k12 ?a13 ?l13 ?c13 ?k13 ?a14 ?l14 ?c14 ?k14 ?a15 ?l15 ?c15 ?k15 ?a16 ?l16 ?c16 ?k16 ?a17 ?l17 ?c17 ?k17 ?a18 ?l18 ?c18 ?k18 ?a19 ?l19 ?c19 ?k19 ?a20 ?l20 ?c20 ?k20 ?a21 ?l21 ?c21 ?k21 ?a22 ?l22 ?c22 ?k22 ?a23 ?l23 ?c23 ?k23 ?z0 ?z1 ?z2 ?z3 ?z4 ?z5 ?z6 ?z7 ?z8
    (case a0 => k_is); (case l0 => k_is); (case c0 => k_is); (case k0 => k_is); (case a1 => k_is); (case l1 => k_is); (case c1 => k_is); (case k1 => k_is); (case a2 => k_is); (case l2 => k_is); (case c2 => k_is); (case k2 => k_is); (case a3 => k_is); (case l3 => k_is); (case c3 => k_is); (case k3 => k_is); (case a4 => k_is); (case l4 => k_is); (case c4 => k_is); (case k4 => k_is); (case a5 => k_is); (case l5 => k_is); (case c5 => k_is); (case k5 => k_is); (case a6 => k_is); (case l6 => k_is); (case c6 => k_is); (case k6 => k_is); (case a7 => k_is); (case l7 => k_is); (case c7 => k_is); (case k7 => k_is); (case a8 => k_is); (case l8 => k_is); (case c8 => k_is); (case k8 => k_is); (case a9 => k_is); (case l9 => k_is); (case c9 => k_is); (case k9 => k_is); (case a10 => k_is); (case l10 => k_is); (case c10 => k_is); (case k10 => k_is); (case a11 => k_is); (case l11 => k_is); (case c11 => k_is); (case k11 => k_is); (case a12 => k_is); (case l12 => k_is); (case c12 => k_is); (case k12 => k_is); (case a13 => k_is); (case l13 => k_is); (case c13 => k_is); (case k13 => k_is); (case a14 => k_is); (case l14 => k_is); (case c14 => k_is); (case k14 => k_is); (case a15 => k_is); (case l15 => k_is); (case c15 => k_is); (case k15 => k_is); (case a16 => k_is); (case l16 => k_is); (case c16 => k_is); (case k16 => k_is); (case a17 => k_is); (case l17 => k_is); (case c17 => k_is); (case k17 => k_is); (case a18 => k_is); (case l18 => k_is); (case c18 => k_is); (case k18 => k_is); (case a19 => k_is); (case l19 => k_is); (case c19 => k_is); (case k19 => k_is); (case a20 => k_is); (case l20 => k_is); (case c20 => k_is); (case k20 => k_is); (case a21 => k_is); (case l21 => k_is); (case c21 => k_is); (case k21 => k_is); (case a22 => k_is); (case l22 => k_is); (case c22 => k_is); (case k22 => k_is); (case a23 => k_is); (case l23 => k_is); (case c23 => k_is); (case k23 => k_is); (case z0 => k_is); (case z1 => k_is); (case z2 => k_is); (case z3 => k_is); (case z4 => k_is); (case z5 => k_is); (case z6 => k_is); (case z7 => k_is); (case z8 => k_is)




