import PyProof.Rows.All
import Wide.All
import OpenK.AllK
import Wide.FinOn
import HandS.ForMost
import HandS.Exc
import HandS.TryOnly
import HandS.ExcOwn
import HandS.WordsExc
import HandS.Wide
import HandS.Deep
import HandS.TupAny
import HandS.SortInts
import HandS.Style
import HandS.IsInst
import HandS.Conv
import HandS.Keys
import HandS.TupSets
import HandS.SetFor
import HandS.ExcInit
import HandS.ExcIs
import HandS.ExcField
import HandS.HotCalls
import HandS.SortKw
import KE.GoesEnumKw
import HandS.Dict
import HandS.More
import PyProof.EqAt
import HandS.DictTup
import HandS.Small
import HandS.Strs
import PyProof.DictMoreH
import HandS.Iter
import HandS.Walk
import HandS.TupLen
import HandS.SortRule
import HandS.Codes
import HandS.TryMany
import HandS.List
import PyProof.StrOps2
import PySem.Challenge.RW_bedstone_k23_bench_refused
set_option Elab.async false
set_option linter.all false
set_option maxRecDepth 100000
set_option maxHeartbeats 2000000
namespace QV
open PySem L2

inductive Lab where
  | fr | base | sl (i : Nat) | tm (k : Nat)
  deriving DecidableEq
abbrev Ow := Addr → Lab

inductive Kd where
  | lst | tup | dK (ks : List Key) | dT (ks : List (List Key)) | lkT (o : Obj) (ks : List (List Key)) | ins (C : Addr) (ks : List Str) | lsA (b : Addr)
inductive D where
  | non | bl (b : Bool) | int (i : Int) | str (x : Str) | scr (ns : List Int) | nd (k : Kd) (ds : List D) | exc (a C : Addr) (d : Option Addr) (ks : List Str) (ds : List D)
inductive T where
  | fz (d : D) | ow (k : Kd) (ds : List D) | nd (k : Kd) (ts : List T)
abbrev Env := List (Option T)

mutual
def T.d : T → D
  | .fz d => d
  | .ow k ds => .nd k ds
  | .nd k ts => .nd k (Tsd ts)
def Tsd : List T → List D
  | [] => []
  | t :: ts => T.d t :: Tsd ts
end
def Bs (H : Hp) (ow : Ow) : Hp := fun a => if ow a = .base then H a else match H a with
  | some (.tup vs) => some (.tup vs)
  | _ => none
theorem bs_of {H : Hp} {ow : Ow} {a : Addr} (h : ow a = .base) : Bs H ow a = H a := if_pos h
theorem bs_some {H : Hp} {ow : Ow} {a : Addr} {o : HO} (h : Bs H ow a = some o) : (ow a = .base ∨ ∃ vs, o = .tup vs) ∧ H a = some o := by
  unfold Bs at h
  by_cases e : ow a = .base
  · rw [if_pos e] at h; exact ⟨.inl e, h⟩
  · rw [if_neg e] at h
    split at h
    · rename_i vs e2
      cases h
      exact ⟨.inr ⟨vs, rfl⟩, e2⟩
    · cases h
theorem bs_tup {H : Hp} {ow : Ow} {a : Addr} {vs : List V} (h : H a = some (.tup vs)) : Bs H ow a = some (.tup vs) := by
  unfold Bs
  by_cases e : ow a = .base
  · rw [if_pos e]; exact h
  · rw [if_neg e, h]
theorem bs_map {H H' : Hp} {ow ow' : Ow} (f : ∀ a o, H a = some o → ow a = .base → H' a = some o ∧ ow' a = .base) (g : ∀ a vs, H a = some (.tup vs) → H' a = some (.tup vs)) : Same (Bs H ow) (Bs H' ow') := fun a o e => by
  obtain ⟨e1 | ⟨vs, rfl⟩, e2⟩ := bs_some e
  · obtain ⟨h1, h2⟩ := f a o e2 e1
    rw [bs_of h2]
    exact h1
  · exact bs_tup (g a vs e2)
theorem bs_lab {H : Hp} {ow ow' : Ow} (f : ∀ a, ow a = .base → ow' a = .base) : Same (Bs H ow) (Bs H ow') := bs_map (fun a _ e q => ⟨e, f a q⟩) fun _ _ e => e
def HOof (k : Kd) (dx : Addr) (vs : List V) : HO := match k with
  | .lst => .lst vs
  | .tup => .tup vs
  | .dK ks => .dK (ks.zip vs)
  | .dT ks => .dT (ks.zip vs)
  | .lkT o ks => .frz o (.dT (ks.zip vs))
  | .lsA _ => .lst vs
  | .ins C ks => .ins C dx (ks.zip vs)
def Fits (H : Hp) (a dx : Addr) (k : Kd) (vs : List V) : Prop := match k with
  | .lst => True
  | .tup => True
  | .dK ks => ks.length = vs.length
  | .dT ks => ks.length = vs.length
  | .lkT _ ks => ks.length = vs.length
  | .lsA b => b = a
  | .ins _ ks => ks.length = vs.length ∧ H dx = some (.own a) ∧ dx ≠ a
structure Cell (H : Hp) (a dx : Addr) (k : Kd) (vs : List V) : Prop where
  at_ : H a = some (HOof k dx vs)
  sz : vs.length ≤ sizeLine
  fit : Fits H a dx k vs
def Foot (a dx : Addr) (k : Kd) (b : Addr) : Prop := match k with
  | .ins _ _ => b = a ∨ b = dx
  | _ => b = a
theorem foot_a {a dx : Addr} {k : Kd} : Foot a dx k a := by cases k <;> first | rfl | exact .inl rfl

section
variable {K : PySem.W.Frag}
mutual
inductive Rp (K : PySem.W.Frag) (B : Hp) : V → D → Prop
  | non : Rp K B .non .non
  | bl (b : Bool) : Rp K B (.bl b) (.bl b)
  | int (i : Int) : Rp K B (.int i) (.int i)
  | str (x : Str) : Rp K B (.str x) (.str x)
  | scr {a : Addr} {ns : List Int} : SqL K B a (ns.map V.int) → Rp K B (.ref a) (.scr ns)
  | exc0 (a C : Addr) : Rp K B (.ref a) (.exc a C none [] [])
  | exc1 {a C dd : Addr} {ks : List Str} {vs : List V} {ds : List D} : B dd = some (.xd (ks.zip vs)) → ks.length = vs.length → Rps K B vs ds → Rp K B (.ref a) (.exc a C (some dd) ks ds)
  | tup {a : Addr} {vs : List V} {ds : List D} : B a = some (.tup vs) → vs.length ≤ sizeLine → Rps K B vs ds → Rp K B (.ref a) (.nd .tup ds)
  | cell {a dx : Addr} {k : Kd} {vs : List V} {ds : List D} : k ≠ .tup → Cell B a dx k vs → Rps K B vs ds → Rp K B (.ref a) (.nd k ds)
inductive Rps (K : PySem.W.Frag) (B : Hp) : List V → List D → Prop
  | nil : Rps K B [] []
  | cons {v : V} {d : D} {vs : List V} {ds : List D} : Rp K B v d → Rps K B vs ds → Rps K B (v :: vs) (d :: ds)
end

theorem Cell.mono {B B' : Hp} (e : Same B B') {a dx : Addr} {k : Kd} {vs : List V} (c : Cell B a dx k vs) : Cell B' a dx k vs := by
  refine ⟨e _ _ c.at_, c.sz, ?_⟩
  have f := c.fit
  cases k with
  | ins C ks => exact ⟨f.1, e _ _ f.2.1, f.2.2⟩
  | _ => exact f
theorem sqT_of {K : PySem.W.Frag} {H : Hp} {a : Addr} {xs : List V} (h : H a = some (.tup xs)) : SqT K H a xs := .inl (.inl h)
theorem sqT_mono {B B' : Hp} (e : Same B B') {a : Addr} {xs : List V} (h : SqT K B a xs) : SqT K B' a xs := by
  rcases h with (h | ⟨o, h⟩) | h
  · exact .inl (.inl (e _ _ h))
  · exact .inl (.inr ⟨o, e _ _ h⟩)
  · exact .inr h
mutual
theorem Rp.mono {B B' : Hp} (e : Same B B') : ∀ {v : V} {d : D}, Rp K B v d → Rp K B' v d
  | _, _, .non => .non
  | _, _, .bl b => .bl b
  | _, _, .int i => .int i
  | _, _, .str x => .str x
  | _, _, .scr h => .scr (e.seq h)
  | _, _, .exc0 a C => .exc0 a C
  | _, _, .exc1 h l r => .exc1 (e _ _ h) l (Rps.mono e r)
  | _, _, .tup h z r => .tup (e _ _ h) z (Rps.mono e r)
  | _, _, .cell n c r => .cell n (c.mono e) (Rps.mono e r)
theorem Rps.mono {B B' : Hp} (e : Same B B') : ∀ {vs : List V} {ds : List D}, Rps K B vs ds → Rps K B' vs ds
  | _, _, .nil => .nil
  | _, _, .cons r t => .cons (Rp.mono e r) (Rps.mono e t)
end
theorem Rps.len {B : Hp} : ∀ {vs : List V} {ds : List D}, Rps K B vs ds → vs.length = ds.length
  | _, _, .nil => rfl
  | _, _, .cons _ t => by rw [List.length_cons, List.length_cons, Rps.len t]
theorem Rps.get {B : Hp} : ∀ {vs : List V} {ds : List D} {i : Nat} {d : D}, Rps K B vs ds → ds[i]? = some d → ∃ v, vs[i]? = some v ∧ Rp K B v d
  | _, _, _, _, .nil, e => by simp at e
  | _, _, 0, _, .cons r _, e => by simp at e; subst e; exact ⟨_, rfl, r⟩
  | _, _, i + 1, d, .cons _ t, e => by
    obtain ⟨v, h1, h2⟩ := Rps.get (i := i) (d := d) t (by simpa using e)
    exact ⟨v, by simpa using h1, h2⟩
theorem Rps.app {B : Hp} : ∀ {vs ws : List V} {ds es : List D}, Rps K B vs ds → Rps K B ws es → Rps K B (vs ++ ws) (ds ++ es)
  | _, _, _, _, .nil, s => s
  | _, _, _, _, .cons r t, s => .cons r (Rps.app t s)
theorem Rps.take {B : Hp} : ∀ {vs : List V} {ds : List D} (n : Nat), Rps K B vs ds → Rps K B (vs.take n) (ds.take n)
  | _, _, 0, _ => by simpa using Rps.nil
  | _, _, _ + 1, .nil => .nil
  | _, _, n + 1, .cons r t => .cons r (Rps.take n t)
theorem Rps.drop {B : Hp} : ∀ {vs : List V} {ds : List D} (n : Nat), Rps K B vs ds → Rps K B (vs.drop n) (ds.drop n)
  | _, _, 0, r => r
  | _, _, _ + 1, .nil => .nil
  | _, _, n + 1, .cons _ t => Rps.drop n t
theorem Rps.set {B : Hp} {v : V} {d : D} (q : Rp K B v d) : ∀ {vs : List V} {ds : List D} (n : Nat), Rps K B vs ds → Rps K B (vs.set n v) (ds.set n d)
  | _, _, _, .nil => .nil
  | _, _, 0, .cons _ t => .cons q t
  | _, _, n + 1, .cons r t => .cons r (Rps.set q n t)
theorem Rp.cellOf {B : Hp} {a dx : Addr} {k : Kd} {vs : List V} {ds : List D} (c : Cell B a dx k vs) (rs : Rps K B vs ds) : Rp K B (.ref a) (.nd k ds) := by
  by_cases hk : k = .tup
  · subst hk
    exact .tup c.at_ c.sz rs
  · exact .cell hk c rs

mutual
inductive Tp (K : PySem.W.Frag) (H : Hp) (ow : Ow) (l : Lab) : V → T → (Addr → Prop) → Prop
  | fz {v : V} {d : D} : Rp K (Bs H ow) v d → Tp K H ow l v (.fz d) (fun _ => False)
  | ow {a dx : Addr} {k : Kd} {vs : List V} {ds : List D} : Cell H a dx k vs → (∀ b, Foot a dx k b → ow b = l) → Rps K (Bs H ow) vs ds → Tp K H ow l (.ref a) (.ow k ds) (Foot a dx k)
  | nd {a dx : Addr} {k : Kd} {vs : List V} {ts : List T} {S : Addr → Prop} : Cell H a dx k vs → (∀ b, Foot a dx k b → ow b = l ∧ ¬ S b) → Tps K H ow l vs ts S → Tp K H ow l (.ref a) (.nd k ts) (fun b => Foot a dx k b ∨ S b)
inductive Tps (K : PySem.W.Frag) (H : Hp) (ow : Ow) (l : Lab) : List V → List T → (Addr → Prop) → Prop
  | nil : Tps K H ow l [] [] (fun _ => False)
  | cons {v : V} {t : T} {vs : List V} {ts : List T} {S1 S2 : Addr → Prop} : Tp K H ow l v t S1 → Tps K H ow l vs ts S2 → (∀ b, S1 b → ¬ S2 b) → Tps K H ow l (v :: vs) (t :: ts) (fun b => S1 b ∨ S2 b)
end
def Tq (K : PySem.W.Frag) (H : Hp) (ow : Ow) (l : Lab) (v : V) (t : T) : Prop := ∃ S, Tp K H ow l v t S

theorem Cell.there {H : Hp} {a dx : Addr} {k : Kd} {vs : List V} (c : Cell H a dx k vs) {b : Addr} (f : Foot a dx k b) : ∃ o, H b = some o := by
  cases k with
  | ins C ks =>
    rcases f with rfl | rfl
    · exact ⟨_, c.at_⟩
    · exact ⟨_, c.fit.2.1⟩
  | _ =>
    have f' : b = a := f
    subst f'
    exact ⟨_, c.at_⟩
theorem Cell.at_same {H H' : Hp} {a dx : Addr} {k : Kd} {vs : List V} (c : Cell H a dx k vs) (e : ∀ b o, Foot a dx k b → H b = some o → H' b = some o) : Cell H' a dx k vs := by
  refine ⟨e a _ foot_a c.at_, c.sz, ?_⟩
  have f := c.fit
  cases k with
  | ins C ks => exact ⟨f.1, e _ _ (.inr rfl) f.2.1, f.2.2⟩
  | _ => exact f
mutual
theorem Tp.there {H : Hp} {ow : Ow} {l : Lab} : ∀ {v : V} {t : T} {S : Addr → Prop}, Tp K H ow l v t S → ∀ b, S b → ow b = l ∧ ∃ o, H b = some o
  | _, _, _, .fz _, _, h => h.elim
  | _, _, _, .ow c f r, b, h => ⟨f b h, c.there h⟩
  | _, _, _, .nd c f r, b, h => by
    rcases h with h | h
    · exact ⟨(f b h).1, c.there h⟩
    · exact Tps.there r b h
theorem Tps.there {H : Hp} {ow : Ow} {l : Lab} : ∀ {v : List V} {t : List T} {S : Addr → Prop}, Tps K H ow l v t S → ∀ b, S b → ow b = l ∧ ∃ o, H b = some o
  | _, _, _, .nil, _, h => h.elim
  | _, _, _, .cons r s _, b, h => by
    rcases h with h | h
    · exact Tp.there r b h
    · exact Tps.there s b h
end
structure Car (H H' : Hp) (ow ow' : Ow) (l l' : Lab) : Prop where
  bs : Same (Bs H ow) (Bs H' ow')
  own : ∀ a o, H a = some o → ow a = l → H' a = some o ∧ ow' a = l'
mutual
theorem Tp.car {H H' : Hp} {ow ow' : Ow} {l l' : Lab} : ∀ {v : V} {t : T} {S : Addr → Prop}, (Same (Bs H ow) (Bs H' ow')) → (∀ a o, S a → H a = some o → ow a = l → H' a = some o ∧ ow' a = l') → Tp K H ow l v t S → Tp K H' ow' l' v t S
  | _, _, _, e, _, .fz r => .fz (r.mono e)
  | _, _, _, e, k, .ow c f r => .ow (c.at_same fun b o fb q => (k b o fb q (f b fb)).1) (fun b fb => let ⟨o, q⟩ := c.there fb; (k b o fb q (f b fb)).2) (r.mono e)
  | _, _, _, e, k, .nd c f r => .nd (c.at_same fun b o fb q => (k b o (.inl fb) q (f b fb).1).1)
      (fun b fb => let ⟨o, q⟩ := c.there fb; ⟨(k b o (.inl fb) q (f b fb).1).2, (f b fb).2⟩) (Tps.car e (fun b o s => k b o (.inr s)) r)
theorem Tps.car {H H' : Hp} {ow ow' : Ow} {l l' : Lab} : ∀ {v : List V} {t : List T} {S : Addr → Prop}, (Same (Bs H ow) (Bs H' ow')) → (∀ a o, S a → H a = some o → ow a = l → H' a = some o ∧ ow' a = l') → Tps K H ow l v t S → Tps K H' ow' l' v t S
  | _, _, _, _, _, .nil => .nil
  | _, _, _, e, k, .cons r s d => .cons (Tp.car e (fun b o q => k b o (.inl q)) r) (Tps.car e (fun b o q => k b o (.inr q)) s) d
end
theorem Car.tp {H H' : Hp} {ow ow' : Ow} {l l' : Lab} (c : Car H H' ow ow' l l') {v : V} {t : T} {S : Addr → Prop} (h : Tp K H ow l v t S) : Tp K H' ow' l' v t S := h.car c.bs fun a o _ => c.own a o
theorem Car.tq {H H' : Hp} {ow ow' : Ow} {l l' : Lab} (c : Car H H' ow ow' l l') {v : V} {t : T} (h : Tq K H ow l v t) : Tq K H' ow' l' v t := h.imp fun _ => c.tp

mutual
theorem Tp.all {H B : Hp} {ow : Ow} {l : Lab} : ∀ {v : V} {t : T} {S : Addr → Prop}, Same (Bs H ow) B → (∀ a o, S a → H a = some o → ow a = l → B a = some o) → Tp K H ow l v t S → Rp K B v t.d
  | _, .fz _, _, e, _, .fz r => r.mono e
  | _, .ow kd ds, _, e, k, .ow c f r => Rp.cellOf (c.at_same (H' := B) fun b o fb q => k b o fb q (f b fb)) (r.mono e)
  | _, .nd kd ts, _, e, k, .nd c f r => by
    have c' := c.at_same (H' := B) fun b o fb q => k b o (.inl fb) q (f b fb).1
    have rs := Tps.all e (fun b o s => k b o (.inr s)) r
    exact Rp.cellOf c' rs
theorem Tps.all {H B : Hp} {ow : Ow} {l : Lab} : ∀ {v : List V} {t : List T} {S : Addr → Prop}, Same (Bs H ow) B → (∀ a o, S a → H a = some o → ow a = l → B a = some o) → Tps K H ow l v t S → Rps K B v (Tsd t)
  | _, _, _, _, _, .nil => .nil
  | _, _, _, e, k, .cons r s _ => .cons (Tp.all e (fun b o q => k b o (.inl q)) r) (Tps.all e (fun b o q => k b o (.inr q)) s)
end
theorem bs_same (H : Hp) (ow : Ow) : Same (Bs H ow) H := fun _ _ e => (bs_some e).2
theorem Tq.rd {H : Hp} {ow : Ow} {l : Lab} {v : V} {t : T} (h : Tq K H ow l v t) : Rp K H v t.d :=
  let ⟨_, h⟩ := h; h.all (bs_same H ow) fun _ _ _ q _ => q
theorem Tps.len {H : Hp} {ow : Ow} {l : Lab} : ∀ {vs : List V} {ts : List T} {S : Addr → Prop}, Tps K H ow l vs ts S → vs.length = ts.length
  | _, _, _, .nil => rfl
  | _, _, _, .cons _ t _ => by rw [List.length_cons, List.length_cons, Tps.len t]
end
end QV

set_option Elab.async false
set_option linter.all false
set_option maxRecDepth 100000
set_option maxHeartbeats 2000000
namespace QV
open PySem L2

structure Rz where
  C : Addr
  ks : List Str
  ds : List D
abbrev XQ := Rz → Env → Prop
abbrev SemE := Env → (T → Env → Prop) → XQ → Prop
abbrev SemP := Env → (T → List Nat → Env → Prop) → XQ → Prop
abbrev SemT := Env → (Bool → Env → Prop) → XQ → Prop
section
variable {K : PySem.W.Frag} {H H' H1 H2 : Hp} {ow ow' ow1 ow2 : Ow} {l l' : Lab} {v : V} {t : T} {M M' M1 M2 : List Nat} {n n' n1 n2 : Nat} {σ : L2.St} {env env' : Env} {p a : Addr} {o : HO}

structure StOk (K : PySem.W.Frag) (H : Hp) (ow : Ow) (σ : L2.St) (env : Env) : Prop where
  len : env.length = σ.length
  at_ : ∀ (i : Nat) (t : T), env[i]? = some (some t) → ∃ v, σ[i]? = some (some v) ∧ Tq K H ow (.sl i) v t
def Prot (M : List Nat) (n : Nat) : Lab → Prop
  | .fr => True
  | .base => True
  | .sl i => i ∉ M
  | .tm k => k < n
theorem Prot.mono (hM : ∀ i ∈ M', i ∈ M) (hn : n ≤ n') (h : Prot M n l) : Prot M' n' l := by
  cases l with
  | sl i => exact fun q => h (hM i q)
  | tm k => exact Nat.lt_of_lt_of_le h hn
  | _ => trivial
structure Stp (M : List Nat) (n : Nat) (H : Hp) (ow : Ow) (H' : Hp) (ow' : Ow) : Prop where
  go : ∀ a o, H a = some o → Prot M n (ow a) → H' a = some o ∧ ow' a = ow a
  tp : ∀ a vs, H a = some (.tup vs) → H' a = some (.tup vs)
instance : CoeFun (Stp M n H ow H' ow') (fun _ => ∀ a o, H a = some o → Prot M n (ow a) → H' a = some o ∧ ow' a = ow a) := ⟨Stp.go⟩
structure Out (M : List Nat) (env env' : Env) : Prop where
  len : env'.length = env.length
  eq : ∀ i, i ∉ M → env'[i]? = env[i]?
theorem Stp.refl : Stp M n H ow H ow := ⟨fun _ _ h _ => ⟨h, rfl⟩, fun _ _ h => h⟩
theorem Stp.trans (x : Stp M1 n1 H ow H1 ow1) (y : Stp M2 n2 H1 ow1 H2 ow2) (h1 : ∀ i ∈ M1, i ∈ M) (h2 : ∀ i ∈ M2, i ∈ M) (k1 : n ≤ n1) (k2 : n ≤ n2) : Stp M n H ow H2 ow2 := ⟨fun a o e q => by
  obtain ⟨e1, q1⟩ := x a o e (q.mono h1 k1)
  obtain ⟨e2, q2⟩ := y a o e1 (by rw [q1]; exact q.mono h2 k2)
  exact ⟨e2, q2.trans q1⟩, fun a vs e => y.tp a vs (x.tp a vs e)⟩
theorem Stp.mono (x : Stp M1 n1 H ow H1 ow1) (h1 : ∀ i ∈ M1, i ∈ M) (k1 : n ≤ n1) : Stp M n H ow H1 ow1 := ⟨fun a o e q => x a o e (q.mono h1 k1), x.tp⟩
theorem Out.refl : Out M env env := ⟨rfl, fun _ _ => rfl⟩
theorem Out.trans {e1 e2 e3 : Env} (x : Out M1 e1 e2) (y : Out M2 e2 e3) (h1 : ∀ i ∈ M1, i ∈ M) (h2 : ∀ i ∈ M2, i ∈ M) : Out M e1 e3 := ⟨y.len.trans x.len, fun i hi => (y.eq i fun z => hi (h2 i z)).trans (x.eq i fun z => hi (h1 i z))⟩
theorem Out.mono {e1 e2 : Env} (x : Out M1 e1 e2) (h1 : ∀ i ∈ M1, i ∈ M) : Out M e1 e2 := ⟨x.len, fun i hi => x.eq i fun z => hi (h1 i z)⟩
theorem Out.set1 {i : Nat} {x : Option T} : Out [i] env (env.set i x) := ⟨List.length_set, fun j hj => List.getElem?_set_ne (fun z => hj (by simp [z]))⟩
theorem Stp.bs (x : Stp M n H ow H' ow') : Same (Bs H ow) (Bs H' ow') := bs_map (fun a o e q => by
  obtain ⟨h1, h2⟩ := x a o e (by rw [q]; trivial)
  exact ⟨h1, h2.trans q⟩) x.tp
theorem Stp.car (x : Stp M n H ow H' ow') (h : Prot M n l) : Car H H' ow ow' l l := ⟨x.bs, fun a o e q => by
  obtain ⟨h1, h2⟩ := x a o e (by rw [q]; exact h)
  exact ⟨h1, h2.trans q⟩⟩
theorem StOk.stp (s : StOk K H ow σ env) (x : Stp M n H ow H' ow') (out : Out M env env') (k : ∀ i t, i ∈ M → env'[i]? = some (some t) → ∃ v, σ[i]? = some (some v) ∧ Tq K H' ow' (.sl i) v t) : StOk K H' ow' σ env' := ⟨out.len.trans s.len, fun i t e => by
  by_cases h : i ∈ M
  · exact k i t h e
  · rw [out.eq i h] at e
    obtain ⟨v, q, r⟩ := s.at_ i t e
    exact ⟨v, q, (x.car (l := .sl i) h).tq r⟩⟩
theorem StOk.stp0 (s : StOk K H ow σ env) (x : Stp [] n H ow H' ow') : StOk K H' ow' σ env := s.stp x Out.refl fun _ _ h => nomatch h

def Ow.put (ow : Ow) (p : Addr) (l : Lab) : Ow := fun b => if b = p then l else ow b
theorem put_same : Ow.put ow p l p = l := if_pos rfl
theorem put_ne {b : Addr} (h : b ≠ p) : Ow.put ow p l b = ow b := if_neg h
theorem Stp.new (h : H p = none) : Stp M n H ow (upd H p o) (Ow.put ow p l) := ⟨fun a u e _ => by
  have ne := ne_of_none e h
  exact ⟨by rw [upd_ne ne]; exact e, put_ne ne⟩, fun a vs e => by rw [upd_ne (ne_of_none e h)]; exact e⟩
theorem Tq.newL {vs : List V} {ds : List D} (h : H p = none) (z : vs.length ≤ sizeLine) (r : Rps K (Bs H ow) vs ds) : Tq K (upd H p (.lst vs)) (Ow.put ow p l) l (.ref p) (.ow .lst ds) :=
  ⟨_, .ow (dx := p) ⟨upd_same, z, trivial⟩ (fun b fb => by
    have e : b = p := fb
    rw [e]; exact put_same) (r.mono (Stp.bs (M := []) (n := 0) (Stp.new h)))⟩
theorem Tq.newT {vs : List V} {ds : List D} (h : H p = none) (z : vs.length ≤ sizeLine) (r : Rps K (Bs H ow) vs ds) : Tq K (upd H p (.tup vs)) (Ow.put ow p l) l (.ref p) (.ow .tup ds) :=
  ⟨_, .ow (dx := p) ⟨upd_same, z, trivial⟩ (fun b fb => by
    have e : b = p := fb
    rw [e]; exact put_same) (r.mono (Stp.bs (M := []) (n := 0) (Stp.new h)))⟩
def Ow.mv (ow : Ow) (l l' : Lab) : Ow := fun b => if ow b = l then l' else ow b
theorem mv_eq {b : Addr} (h : ow b = l) : Ow.mv ow l l' b = l' := if_pos h
theorem mv_ne {b : Addr} (h : ow b ≠ l) : Ow.mv ow l l' b = ow b := if_neg h
theorem Stp.mv (h : ¬ Prot M n l) : Stp M n H ow H (Ow.mv ow l l') := ⟨fun a u e q => ⟨e, mv_ne fun z => h (z ▸ q)⟩, fun _ _ e => e⟩
theorem bs_mv (h : l ≠ .base) : Same (Bs H ow) (Bs H (Ow.mv ow l l')) := bs_lab fun a e1 => by rw [mv_ne (by rw [e1]; exact fun z => h z.symm)]; exact e1
theorem Tq.mv (h : l ≠ .base) (r : Tq K H ow l v t) : Tq K H (Ow.mv ow l l') l' v t := Car.tq ⟨bs_mv h, fun _ _ e q => ⟨e, mv_eq q⟩⟩ r
theorem Tq.frz (h : l ≠ .base) (r : Tq K H ow l v t) : Rp K (Bs H (Ow.mv ow l .base)) v t.d :=
  let ⟨_, r⟩ := r; r.all (bs_mv h) fun a o _ e q => by rw [bs_of (mv_eq q)]; exact e
theorem Tq.fz_ {d : D} : Tq K H ow l v (.fz d) ↔ Rp K (Bs H ow) v d := ⟨fun ⟨_, h⟩ => by cases h; assumption, fun h => ⟨_, .fz h⟩⟩
theorem not_tm : ¬ Prot M n (.tm n) := Nat.lt_irrefl n
theorem not_sl {i : Nat} (h : i ∈ M) : ¬ Prot M n (.sl i) := fun q => q h

theorem zip_inj {α β : Type} : ∀ {ks : List α} {vs ws : List β}, ks.length = vs.length → ks.length = ws.length → ks.zip vs = ks.zip ws → vs = ws
  | [], [], [], _, _, _ => rfl
  | k :: ks, v :: vs, w :: ws, h1, h2, h => by
    rw [List.zip_cons_cons, List.zip_cons_cons] at h
    obtain ⟨e1, e2⟩ := List.cons.inj h
    rw [(Prod.mk.inj e1).2, zip_inj (Nat.succ.inj h1) (Nat.succ.inj h2) e2]
theorem Cell.inj {dx dx' : Addr} {k : Kd} {vs ws : List V} (c : Cell H a dx k vs) (c' : Cell H a dx' k ws) : vs = ws := by
  have e := Option.some.inj (c.at_.symm.trans c'.at_)
  cases k with
  | lst => exact HO.lst.inj e
  | tup => exact HO.tup.inj e
  | dK ks => exact zip_inj c.fit c'.fit (HO.dK.inj e)
  | dT ks => exact zip_inj c.fit c'.fit (HO.dT.inj e)
  | lkT o ks => exact zip_inj c.fit c'.fit (HO.dT.inj (HO.frz.inj e).2)
  | lsA b => exact HO.lst.inj e
  | ins C ks => exact zip_inj c.fit.1 c'.fit.1 (HO.ins.inj e).2.2
inductive Sub (K : PySem.W.Frag) (H : Hp) (ow : Ow) (l : Lab) : V → T → List Nat → V → T → Prop
  | nil {v : V} {t : T} : Sub K H ow l v t [] v t
  | cons {a dx : Addr} {k : Kd} {vs : List V} {ts : List T} {j : Nat} {p : List Nat} {v1 v : V} {t1 t : T} : Cell H a dx k vs → (∀ b, Foot a dx k b → ow b = l) → vs[j]? = some v1 → ts[j]? = some t1 → Sub K H ow l v1 t1 p v t → Sub K H ow l (.ref a) (.nd k ts) (j :: p) v t
theorem Tps.get : ∀ {vs : List V} {ts : List T} {S : Addr → Prop} {j : Nat} {v : V} {t : T}, Tps K H ow l vs ts S → vs[j]? = some v → ts[j]? = some t → ∃ S', Tp K H ow l v t S'
  | _, _, _, _, _, _, .nil, e, _ => by simp at e
  | _, _, _, 0, _, _, .cons r _ _, e, e' => by simp at e e'; subst e e'; exact ⟨_, r⟩
  | _, _, _, j + 1, v, t, .cons _ s _, e, e' => Tps.get (j := j) s (by simpa using e) (by simpa using e')
theorem Sub.tq {v0 v : V} {t0 t : T} {pt : List Nat} (s : Sub K H ow l v0 t0 pt v t) : Tq K H ow l v0 t0 → Tq K H ow l v t := by
  induction s with
  | nil => exact id
  | cons c f e1 e2 _ ih =>
    rintro ⟨S, r⟩
    cases r with
    | nd c' f' r' =>
      have e := c'.inj c
      subst e
      obtain ⟨S', r1⟩ := r'.get e1 e2
      exact ih ⟨S', r1⟩
theorem Sub.car {v0 v : V} {t0 t : T} {pt : List Nat} (c : Car H H' ow ow' l l') (s : Sub K H ow l v0 t0 pt v t) : Sub K H' ow' l' v0 t0 pt v t := by
  induction s with
  | nil => exact .nil
  | cons q f e1 e2 _ ih => exact .cons (q.at_same fun b o fb e => (c.own b o e (f b fb)).1) (fun b fb => let ⟨o, e⟩ := q.there fb; (c.own b o e (f b fb)).2) e1 e2 ih
def Plc (K : PySem.W.Frag) (H : Hp) (ow : Ow) (σ : L2.St) (env : Env) (n : Nat) (root : Option Nat) (v : V) (t : T) (pt : List Nat) : Prop :=
  (∃ d, t = .fz d ∧ Rp K (Bs H ow) v d) ∨ (root = none ∧ Tq K H ow (.tm n) v t) ∨
    ∃ i v0 t0, root = some i ∧ σ[i]? = some (some v0) ∧ env[i]? = some (some t0) ∧ Sub K H ow (.sl i) v0 t0 pt v t
def Ro (K : PySem.W.Frag) (H : Hp) (ow : Ow) (v : V) (t : T) : Prop := ∃ l, Tq K H ow l v t
theorem Plc.ro {root : Option Nat} {pt : List Nat} (s : StOk K H ow σ env) (h : Plc K H ow σ env n root v t pt) : Ro K H ow v t := by
  rcases h with ⟨d, rfl, r⟩ | ⟨_, r⟩ | ⟨i, v0, t0, _, e1, e2, r⟩
  · exact ⟨.fr, Tq.fz_.mpr r⟩
  · exact ⟨_, r⟩
  · obtain ⟨w, e3, q⟩ := s.at_ i t0 e2
    rw [e1] at e3
    cases e3
    exact ⟨_, r.tq q⟩
def okR (r : Option Nat) (M : List Nat) : Bool := match r with
  | none => true
  | some i => decide (i ∉ M)
theorem Plc.stp {root : Option Nat} {pt : List Nat} (h : Plc K H ow σ env n root v t pt) (x : Stp M n' H ow H' ow') (out : Out M env env') (hr : okR root M = true) (hn : n < n') : Plc K H' ow' σ env' n root v t pt := by
  rcases h with ⟨d, rfl, r⟩ | ⟨e, r⟩ | ⟨i, v0, t0, rfl, e1, e2, r⟩
  · exact .inl ⟨d, rfl, r.mono x.bs⟩
  · exact .inr (.inl ⟨e, (x.car (l := .tm n) hn).tq r⟩)
  · have hi : i ∉ M := of_decide_eq_true hr
    exact .inr (.inr ⟨i, v0, t0, rfl, e1, (out.eq i hi).trans e2, r.car (x.car (l := .sl i) hi)⟩)
theorem Ro.rd (h : Ro K H ow v t) : Rp K H v t.d := let ⟨_, h⟩ := h; h.rd

def Rzp (K : PySem.W.Frag) (H : Hp) (ow : Ow) (d : Option Addr) (r : Rz) : Prop := match d with
  | some d => ∃ vs, Bs H ow d = some (.xd (r.ks.zip vs)) ∧ r.ks.length = vs.length ∧ Rps K (Bs H ow) vs r.ds
  | none => r.ks = [] ∧ r.ds = []
def Xk (K : PySem.W.Frag) (W : WX) (M : List Nat) (σ : L2.St) (H : Hp) (n : Nat) (ow : Ow) (env : Env) (E : XQ) : Prop :=
  ∀ (r : Rz) (d : Option Addr) (H' : Hp) (ow' : Ow) (env' : Env), Stp M n H ow H' ow' → StOk K H' ow' σ env' → Out M env env' → Rzp K H' ow' d r → E r env' → W (.ref r.C) d σ H'
def tP (K : PySem.W.Frag) (W : WX) (M : List Nat) (root : Option Nat) (q : SemP) : TE := fun σ H Qv => ∃ (n : Nat) (ow : Ow) (env : Env) (Q : T → List Nat → Env → Prop) (E : XQ), StOk K H ow σ env ∧ q env Q E ∧
  (∀ (v : V) (t : T) (pt : List Nat) (H' : Hp) (ow' : Ow) (env' : Env), Stp M n H ow H' ow' → StOk K H' ow' σ env' → Out M env env' → Plc K H' ow' σ env' n root v t pt → Q t pt env' → Qv v H') ∧ Xk K W M σ H n ow env E
def tQ (K : PySem.W.Frag) (W : WX) (M : List Nat) (q : SemE) : TE := fun σ H Qv => ∃ (n : Nat) (ow : Ow) (env : Env) (Q : T → Env → Prop) (E : XQ), StOk K H ow σ env ∧ q env Q E ∧
  (∀ (v : V) (t : T) (H' : Hp) (ow' : Ow) (env' : Env), Stp M n H ow H' ow' → StOk K H' ow' σ env' → Out M env env' → Tq K H' ow' (.tm n) v t → Q t env' → Qv v H') ∧ Xk K W M σ H n ow env E
def tT (K : PySem.W.Frag) (W : WX) (M : List Nat) (q : SemT) : TT := fun σ H Qv => ∃ (n : Nat) (ow : Ow) (env : Env) (Q : Bool → Env → Prop) (E : XQ), StOk K H ow σ env ∧ q env Q E ∧
  (∀ (b : Bool) (H' : Hp) (ow' : Ow) (env' : Env), Stp M n H ow H' ow' → StOk K H' ow' σ env' → Out M env env' → Q b env' → Qv b H') ∧ Xk K W M σ H n ow env E
theorem Xk.step {W : WX} {E : XQ} (k : Xk K W M σ H n ow env E) (x : Stp M1 n1 H ow H1 ow1) {env1 : Env} (out : Out M1 env env1) (h1 : ∀ i ∈ M1, i ∈ M) (h2 : ∀ i ∈ M2, i ∈ M) (k1 : n ≤ n1) (k2 : n ≤ n2) : Xk K W M2 σ H1 n2 ow1 env1 E :=
  fun r d H' ow' env' y s o2 z e => k r d H' ow' env' (x.trans y h1 h2 k1 k2) s (out.trans o2 h1 h2) z e
end

structure QP (X : Cx) (W : WX) (M : List Nat) (root : Option Nat) (e : Expr) (q : SemP) : Prop where
  run : PE X e (tP X.K W M root q)
structure QE (X : Cx) (W : WX) (M : List Nat) (e : Expr) (q : SemE) : Prop where
  run : PE X e (tQ X.K W M q)
structure QT (X : Cx) (W : WX) (M : List Nat) (e : Expr) (q : SemT) : Prop where
  run : PT X e (tT X.K W M q)
theorem PE_imp {X : Cx} {e : Expr} {t t' : TE} (h : PE X e t) (f : ∀ σ H Q, t' σ H Q → t σ H Q) : PE X e t' := ⟨fun pins s σ H Q I q => h.run pins s σ H Q I (f _ _ _ q)⟩
theorem PT_imp {X : Cx} {e : Expr} {t t' : TT} (h : PT X e t) (f : ∀ σ H Q, t' σ H Q → t σ H Q) : PT X e t' := ⟨fun pins s σ H Q I q => h.run pins s σ H Q I (f _ _ _ q)⟩
section
variable {X : Cx} {W : WX} {M M' Ma Mb : List Nat} {e a b : Expr} {q qa qb : SemE} {pa pb : SemP} {ra rb root : Option Nat} {pos : Pos}
theorem nilsub {M : List Nat} : ∀ i ∈ ([] : List Nat), i ∈ M := fun _ h => nomatch h
theorem subl {Ma Mb : List Nat} : ∀ i ∈ Ma, i ∈ Ma ++ Mb := fun _ h => List.mem_append_left _ h
theorem subr {Ma Mb : List Nat} : ∀ i ∈ Mb, i ∈ Ma ++ Mb := fun _ h => List.mem_append_right _ h
theorem QE.more (h : QE X W M e q) (hs : ∀ i ∈ M, i ∈ M') : QE X W M' e q := ⟨PE_imp h.run fun σ H Qv ⟨n, ow, env, Q, E, s, hq, k, x⟩ =>
  ⟨n, ow, env, Q, E, s, hq, fun v t H' ow' env' y s' o r z => k v t H' ow' env' (y.mono hs (Nat.le_refl _)) s' (o.mono hs) r z, fun r d H' ow' env' y s' o => x r d H' ow' env' (y.mono hs (Nat.le_refl _)) s' (o.mono hs)⟩⟩
theorem QT.more {q : SemT} (h : QT X W M e q) (hs : ∀ i ∈ M, i ∈ M') : QT X W M' e q := ⟨PT_imp h.run fun σ H Qv ⟨n, ow, env, Q, E, s, hq, k, x⟩ =>
  ⟨n, ow, env, Q, E, s, hq, fun v H' ow' env' y s' o z => k v H' ow' env' (y.mono hs (Nat.le_refl _)) s' (o.mono hs) z, fun r d H' ow' env' y s' o => x r d H' ow' env' (y.mono hs (Nat.le_refl _)) s' (o.mono hs)⟩⟩
def sPE (q : SemE) : SemP := fun env Q E => q env (fun t env' => Q t [] env') E
theorem QE.p (h : QE X W M e q) : QP X W M none e (sPE q) := ⟨PE_imp h.run fun σ H Qv ⟨n, ow, env, Q, E, s, hq, k, x⟩ =>
  ⟨n, ow, env, fun t env' => Q t [] env', E, s, hq, fun v t H' ow' env' y s' o r z => k v t [] H' ow' env' y s' o (.inr (.inl ⟨rfl, r⟩)) z, x⟩⟩
def sFz (q : SemE) : SemE := fun env Q E => q env (fun t env' => Q (.fz t.d) env') E
theorem QE.fz (h : QE X W M e q) : QE X W M e (sFz q) := ⟨PE_imp h.run fun σ H Qv ⟨n, ow, env, Q, E, s, hq, k, x⟩ =>
  ⟨n, ow, env, fun t env' => Q (.fz t.d) env', E, s, hq, fun v t H' ow' env' y s' o r z => by
    have y2 : Stp [] n H' ow' H' (Ow.mv ow' (.tm n) .base) := Stp.mv not_tm
    exact k v (.fz t.d) H' _ env' (y.trans y2 (fun _ h => h) nilsub (Nat.le_refl _) (Nat.le_refl _)) (s'.stp0 y2) o (Tq.fz_.mpr (r.frz (fun z => nomatch z))) z, x⟩⟩
def sEP (q : SemP) : SemE := fun env Q E => q env (fun t _ env' => match t with | .fz d => Q (.fz d) env' | _ => False) E
theorem QP.val (h : QP X W M root e pa) : QE X W M e (sEP pa) := ⟨PE_imp h.run fun σ H Qv ⟨n, ow, env, Q, E, s, hq, k, x⟩ =>
  ⟨n, ow, env, _, E, s, hq, fun v t pt H' ow' env' y s' o r z => by
    cases t with
    | fz d =>
      obtain ⟨l, r'⟩ := r.ro s'
      exact k v (.fz d) H' ow' env' y s' o (Tq.fz_.mpr (Tq.fz_.mp r')) z
    | ow _ _ => exact z.elim
    | nd _ _ => exact z.elim, x⟩⟩

def sNm (i : Nat) : SemP := fun env Q _ => match env[i]? with
  | some (some t) => Q t [] env
  | _ => False
theorem p_nm (i : Nat) {x : Str} (hN : X.N[i]? = some x := by rfl) (hv : Vis X.env.scope x := by first | exact Or.inl rfl | exact Or.inr (Or.inl rfl) | exact Or.inr (Or.inr rfl)) (hd : (x == ("__debug__" : Str)) = false := by decide)
    (hcd : (x == ("__classdict__" : Str)) = false := by decide) : QP X W [] (some i) (.Name x pos) (sNm i) := ⟨PE_imp (pe_var (i := i) hN hv hd hcd) fun σ H Qv ⟨n, ow, env, Q, E, s, hq, k, _⟩ => by
  unfold sNm at hq
  split at hq
  · rename_i t e
    obtain ⟨v, e1, r⟩ := s.at_ i t e
    exact ⟨v, e1, k v t [] H ow env Stp.refl s Out.refl (.inr (.inr ⟨i, v, t, rfl, e1, e, .nil⟩)) hq⟩
  · exact hq.elim⟩
def sC (d : D) : SemE := fun env Q _ => Q (.fz d) env
theorem q_const {v : V} {d : D} (h : PE X e (tC v)) (r : ∀ B, Rp X.K B v d) : QE X W [] e (sC d) := ⟨PE_imp h fun σ H Qv ⟨n, ow, env, Q, E, s, hq, k, _⟩ =>
  k v (.fz d) H ow env Stp.refl s Out.refl (Tq.fz_.mpr (r _)) hq⟩
theorem q_int {i : Int} {j} : QE X W [] (.Constant (.int i) j pos) (sC (.int i)) := q_const pe_int fun _ => .int i
theorem q_bl {i : Bool} {j} : QE X W [] (.Constant (.bool i) j pos) (sC (.bl i)) := q_const pe_bl fun _ => .bl i
theorem q_non {j} : QE X W [] (.Constant .none j pos) (sC .non) := q_const pe_non fun _ => .non
theorem q_str {x : Str} {j} : QE X W [] (.Constant (.str x) j pos) (sC (.str x)) := q_const pe_str fun _ => .str x
def sFzN (i : Nat) : SemE := fun env Q _ => match env[i]? with
  | some (some t) => Q (.fz t.d) (env.set i (some (.fz t.d)))
  | _ => False
theorem q_fzn (i : Nat) {x : Str} (hN : X.N[i]? = some x := by rfl) (hv : Vis X.env.scope x := by first | exact Or.inl rfl | exact Or.inr (Or.inl rfl) | exact Or.inr (Or.inr rfl)) (hd : (x == ("__debug__" : Str)) = false := by decide)
    (hcd : (x == ("__classdict__" : Str)) = false := by decide) : QE X W [i] (.Name x pos) (sFzN i) := ⟨PE_imp (pe_var (i := i) hN hv hd hcd) fun σ H Qv ⟨n, ow, env, Q, E, s, hq, k, _⟩ => by
  unfold sFzN at hq
  split at hq
  · rename_i t e
    obtain ⟨v, e1, r⟩ := s.at_ i t e
    have y : Stp [i] n H ow H (Ow.mv ow (.sl i) .base) := Stp.mv (not_sl (by simp))
    have fr := r.frz (by exact fun z => nomatch z)
    have hi : i < env.length := (List.getElem?_eq_some_iff.mp e).1
    refine ⟨v, e1, k v (.fz t.d) H _ _ y (s.stp y (Out.set1) fun j u hj e' => ?_) Out.set1 (Tq.fz_.mpr fr) hq⟩
    have ej : j = i := by simpa using hj
    subst ej
    rw [List.getElem?_set_self hi] at e'
    cases e'
    exact ⟨v, e1, Tq.fz_.mpr fr⟩
  · exact hq.elim⟩
theorem two {K : PySem.W.Frag} {σ : L2.St} {H : Hp} {n : Nat} {ow : Ow} {env : Env} {R : T → T → Env → Prop} {E : XQ} {Qv : V → V → Hp → Prop} (hr : okR ra Mb = true) (s : StOk K H ow σ env) (hq : pa env (fun t _ env1 => pb env1 (fun u _ env2 => R t u env2) E) E)
    (k : ∀ x y t u H' ow' env', Stp (Ma ++ Mb) n H ow H' ow' → StOk K H' ow' σ env' → Out (Ma ++ Mb) env env' → Ro K H' ow' x t → Ro K H' ow' y u → R t u env' → Qv x y H') (x : Xk K W (Ma ++ Mb) σ H n ow env E) :
    tP K W Ma ra pa σ H fun x H1 => tP K W Mb rb pb σ H1 fun y H2 => Qv x y H2 := by
  refine ⟨n, ow, env, _, E, s, hq, fun v t pt H1 ow1 env1 y1 s1 o1 r1 q1 => ?_, fun r d H' ow' env' y s' o => x r d H' ow' env' (y.mono subl (Nat.le_refl _)) s' (o.mono subl)⟩
  refine ⟨n + 1, ow1, env1, _, E, s1, q1, fun w u pu H2 ow2 env2 y2 s2 o2 r2 q2 => ?_, x.step y1 o1 subl subr (Nat.le_refl _) (Nat.le_succ _)⟩
  exact k v w t u H2 ow2 env2 (y1.trans y2 subl subr (Nat.le_refl _) (Nat.le_succ _)) s2 (o1.trans o2 subl subr) ((r1.stp y2 o2 hr (Nat.lt_succ_self _)).ro s2) (r2.ro s2) q2
end
def Op2 (K : PySem.W.Frag) (r : R2) (g : T → T → (T → Prop) → Prop) : Prop := ∀ (H : Hp) (ow : Ow) (n : Nat) (x y : V) (t u : T) (Q : T → Prop) (Qv : VK), Ro K H ow x t → Ro K H ow y u → g t u Q →
  (∀ v w H' ow', Stp [] n H ow H' ow' → Tq K H' ow' (.tm n) v w → Q w → Qv v H') → r x y H Qv
def Op1 (K : PySem.W.Frag) (r : V → Hp → VK → Prop) (g : T → (T → Prop) → Prop) : Prop := ∀ (H : Hp) (ow : Ow) (n : Nat) (x : V) (t : T) (Q : T → Prop) (Qv : VK), Ro K H ow x t → g t Q →
  (∀ v w H' ow', Stp [] n H ow H' ow' → Tq K H' ow' (.tm n) v w → Q w → Qv v H') → r x H Qv
def s2 (pa pb : SemP) (g : T → T → (T → Prop) → Prop) : SemE := fun env Q E => pa env (fun t _ env1 => pb env1 (fun u _ env2 => g t u fun w => Q w env2) E) E
def s1 (pa : SemP) (g : T → (T → Prop) → Prop) : SemE := fun env Q E => pa env (fun t _ env1 => g t fun w => Q w env1) E
section
variable {X : Cx} {W : WX} {M Ma Mb : List Nat} {e a b : Expr} {pa pb : SemP} {ra rb root : Option Nat} {pos : Pos}
theorem op2_run {K : PySem.W.Frag} {r : R2} {g : T → T → (T → Prop) → Prop} (hg : Op2 K r g) (hr : okR ra Mb = true) {σ : L2.St} {H : Hp} {Qv : VK} (h : tQ K W (Ma ++ Mb) (s2 pa pb g) σ H Qv) : tOp r (tP K W Ma ra pa) (tP K W Mb rb pb) σ H Qv := by
  obtain ⟨n, ow, env, Q, E, s, hq, k, x⟩ := h
  refine two (R := fun t u env2 => g t u fun w => Q w env2) (E := E) (Qv := fun x y H2 => r x y H2 Qv) hr s hq (fun x' y t u H' ow' env' y1 s' o r1 r2 q => ?_) x
  refine hg H' ow' n x' y t u _ Qv r1 r2 q fun v w H2 ow2 y2 r3 q3 => ?_
  exact k v w H2 ow2 env' (y1.trans y2 (fun _ h => h) nilsub (Nat.le_refl _) (Nat.le_refl _)) (s'.stp0 y2) o r3 q3
theorem q_op {op : Operator} {r : R2} {g : T → T → (T → Prop) → Prop} (ho : OpR X (binaryOp op) r) (hg : Op2 X.K r g) (ha : QP X W Ma ra a pa) (hb : QP X W Mb rb b pb) (hr : okR ra Mb = true := by decide) : QE X W (Ma ++ Mb) (.BinOp a op b pos) (s2 pa pb g) :=
  ⟨PE_imp (pe_op ho ha.run hb.run) fun _ _ _ h => op2_run hg hr h⟩
theorem q_cmp {op : CmpOp} {r : R2} {g : T → T → (T → Prop) → Prop} (ho : OpR X (compareOp op) r) (hg : Op2 X.K r g) (ha : QP X W Ma ra a pa) (hb : QP X W Mb rb b pb) (hm : behindInMarks op b = false) (hr : okR ra Mb = true := by decide) : QE X W (Ma ++ Mb) (.Compare a [op] [b] pos) (s2 pa pb g) :=
  ⟨PE_imp (pe_cmpR ho ha.run hb.run hm) fun _ _ _ h => op2_run hg hr h⟩
theorem q_ixR {r : R2} {g : T → T → (T → Prop) → Prop} (ho : IxR X r) (hg : Op2 X.K r g) (ha : QP X W Ma ra a pa) (hb : QP X W Mb rb b pb) (hs : PlainIx b) (hr : okR ra Mb = true := by decide) : QE X W (Ma ++ Mb) (.Subscript a b pos) (s2 pa pb g) :=
  ⟨PE_imp (pe_ix ho ha.run hb.run hs) fun _ _ _ h => op2_run hg hr h⟩
theorem q_un {op : UnaryOp} {r : V → Hp → VK → Prop} {g : T → (T → Prop) → Prop} (ho : UnR X (unaryOp op) r) (hg : Op1 X.K r g) (ha : QP X W M root a pa) : QE X W M (.UnaryOp op a pos) (s1 pa g) :=
  ⟨PE_imp (pe_un ho ha.run) fun σ H Qv ⟨n, ow, env, Q, E, s, hq, k, x⟩ => ⟨n, ow, env, _, E, s, hq, fun v t pt H' ow' env' y1 s' o r q => hg H' ow' n v t _ Qv (r.ro s') q fun v' w H2 ow2 y2 r3 q3 =>
    k v' w H2 ow2 env' (y1.trans y2 (fun _ h => h) nilsub (Nat.le_refl _) (Nat.le_refl _)) (s'.stp0 y2) o r3 q3, x⟩⟩
end
end QV

set_option Elab.async false
set_option linter.all false
set_option maxRecDepth 100000
set_option maxHeartbeats 2000000
namespace QV
open PySem L2

mutual
def D.py : D → PyData
  | .non => .none
  | .bl b => .bool b
  | .int i => .int i
  | .str x => .str x
  | .nd .lst ds => .list (Dspy ds)
  | .nd .tup ds => .tuple (Dspy ds)
  | _ => .none
def Dspy : List D → List PyData
  | [] => []
  | d :: ds => D.py d :: Dspy ds
end
mutual
def D.pl : Nat → D → Bool
  | _, .non => true
  | _, .bl _ => true
  | _, .int _ => true
  | _, .str x => PyData.strOk x
  | 0, .nd _ _ => false
  | n + 1, .nd .lst ds => Dspl n ds
  | n + 1, .nd .tup ds => Dspl n ds
  | _, _ => false
def Dspl : Nat → List D → Bool
  | _, [] => true
  | n, d :: ds => D.pl n d && Dspl n ds
end
mutual
def eqD : D → D → Bool
  | .non, .non => true
  | .bl a, .bl b => decide (a = b)
  | .bl a, .int j => decide ((if a then 1 else 0) = j)
  | .int i, .bl b => decide (i = if b then 1 else 0)
  | .int i, .int j => decide (i = j)
  | .str x, .str y => decide (x = y)
  | .nd .lst xs, .nd .lst ys => eqDs xs ys
  | .nd .tup xs, .nd .tup ys => eqDs xs ys
  | _, _ => false
def eqDs : List D → List D → Bool
  | [], [] => true
  | x :: xs, y :: ys => eqD x y && eqDs xs ys
  | _, _ => false
end
mutual
theorem D.pl_lay : ∀ {n : Nat} (d : D), d.pl n = true → d.py.canLay0 = true ∧ d.py.depth ≤ n
  | n, .non, _ => ⟨rfl, by simp [D.py, PyData.depth]⟩
  | n, .bl b, _ => ⟨rfl, by simp [D.py, PyData.depth]⟩
  | n, .int i, _ => ⟨rfl, by simp [D.py, PyData.depth]⟩
  | n, .str x, h => ⟨by simpa [D.py, PyData.canLay0, D.pl] using h, by simp [D.py, PyData.depth]⟩
  | 0, .scr _, h => by simp [D.pl] at h
  | n + 1, .scr _, h => by simp [D.pl] at h
  | 0, .nd _ _, h => by simp [D.pl] at h
  | n + 1, .nd .lst ds, h => by
    have q := Dspl_lay (n := n) ds (by simpa [D.pl] using h)
    exact ⟨by simpa [D.py, PyData.canLay0] using q.1, by simpa [D.py, PyData.depth] using q.2⟩
  | n + 1, .nd .tup ds, h => by
    have q := Dspl_lay (n := n) ds (by simpa [D.pl] using h)
    exact ⟨by simpa [D.py, PyData.canLay0] using q.1, by simpa [D.py, PyData.depth] using q.2⟩
  | n + 1, .nd (.dK _) _, h => by simp [D.pl] at h
  | n + 1, .nd (.dT _) _, h => by simp [D.pl] at h
  | n + 1, .nd (.lkT _ _) _, h => by simp [D.pl] at h
  | n + 1, .nd (.lsA _) _, h => by simp [D.pl] at h
  | n + 1, .nd (.ins _ _) _, h => by simp [D.pl] at h
theorem Dspl_lay : ∀ {n : Nat} (ds : List D), Dspl n ds = true → PyData.canLayAll0 (Dspy ds) = true ∧ PyData.depthAll (Dspy ds) ≤ n
  | n, [], _ => ⟨by simp [Dspy, PyData.canLayAll0], by simp [Dspy, PyData.depthAll]⟩
  | n, d :: ds, h => by
    have h' : D.pl n d = true ∧ Dspl n ds = true := by simpa [Dspl] using h
    have q1 := D.pl_lay d h'.1
    have q2 := Dspl_lay ds h'.2
    refine ⟨by simp [Dspy, PyData.canLayAll0, q1.1, q2.1], ?_⟩
    have := q1.2
    have := q2.2
    simp only [Dspy, PyData.depthAll]
    omega
end
theorem D.pl_shaped {n : Nat} {d : D} (h : d.pl n = true) (hn : n ≤ 64) : SeqAt.shaped d.py = true := by
  have q := D.pl_lay d h
  unfold SeqAt.shaped
  rw [q.1, decide_eq_true (Nat.le_trans q.2 hn)]
  rfl
mutual
theorem eqD_py : ∀ {n m : Nat} (d e : D), d.pl n = true → e.pl m = true → eqD d e = PyData.eqv d.py e.py
  | n, m, .non, .non, _, _ => by simp [eqD, D.py, PyData.eqv]
  | n, m, .non, .bl _, _, _ => by simp [eqD, D.py, PyData.eqv]
  | n, m, .non, .int _, _, _ => by simp [eqD, D.py, PyData.eqv]
  | n, m, .non, .str _, _, _ => by simp [eqD, D.py, PyData.eqv]
  | n, m, .bl _, .non, _, _ => by simp [eqD, D.py, PyData.eqv]
  | n, m, .bl a, .bl b, _, _ => by simp only [eqD, D.py, PyData.eqv]; cases a <;> cases b <;> rfl
  | n, m, .bl a, .int j, _, _ => by simp only [eqD, D.py, PyData.eqv]; rw [Bool.beq_eq_decide_eq]
  | n, m, .bl _, .str _, _, _ => by simp [eqD, D.py, PyData.eqv]
  | n, m, .int _, .non, _, _ => by simp [eqD, D.py, PyData.eqv]
  | n, m, .int i, .bl b, _, _ => by simp only [eqD, D.py, PyData.eqv]; rw [Bool.beq_eq_decide_eq]
  | n, m, .int i, .int j, _, _ => by simp only [eqD, D.py, PyData.eqv]; rw [Bool.beq_eq_decide_eq]
  | n, m, .int _, .str _, _, _ => by simp [eqD, D.py, PyData.eqv]
  | n, m, .str _, .non, _, _ => by simp [eqD, D.py, PyData.eqv]
  | n, m, .str _, .bl _, _, _ => by simp [eqD, D.py, PyData.eqv]
  | n, m, .str _, .int _, _, _ => by simp [eqD, D.py, PyData.eqv]
  | n, m, .str x, .str y, _, _ => by simp only [eqD, D.py, PyData.eqv]; rw [Bool.beq_eq_decide_eq]
  | n + 1, m + 1, .nd .lst xs, .nd .lst ys, h, k => by simpa [eqD, D.py, PyData.eqv] using eqDs_py xs ys (by simpa [D.pl] using h) (by simpa [D.pl] using k)
  | n + 1, m + 1, .nd .tup xs, .nd .tup ys, h, k => by simpa [eqD, D.py, PyData.eqv] using eqDs_py xs ys (by simpa [D.pl] using h) (by simpa [D.pl] using k)
  | n + 1, m + 1, .nd .lst xs, .nd .tup ys, _, _ => by simp [eqD, D.py, PyData.eqv]
  | n + 1, m + 1, .nd .tup xs, .nd .lst ys, _, _ => by simp [eqD, D.py, PyData.eqv]
  | n, m, .scr _, _, h, _ => by cases n <;> simp [D.pl] at h
  | n, m, _, .scr _, _, h => by cases m <;> simp [D.pl] at h
  | 0, m, .nd _ _, _, h, _ => by simp [D.pl] at h
  | n, 0, _, .nd _ _, _, h => by simp [D.pl] at h
  | n + 1, m, .nd (.dK _) _, _, h, _ => by simp [D.pl] at h
  | n + 1, m, .nd (.dT _) _, _, h, _ => by simp [D.pl] at h
  | n + 1, m, .nd (.lkT _ _) _, _, h, _ => by simp [D.pl] at h
  | n + 1, m, .nd (.lsA _) _, _, h, _ => by simp [D.pl] at h
  | n + 1, m, .nd (.ins _ _) _, _, h, _ => by simp [D.pl] at h
  | n, m + 1, _, .nd (.dK _) _, _, h => by simp [D.pl] at h
  | n, m + 1, _, .nd (.dT _) _, _, h => by simp [D.pl] at h
  | n, m + 1, _, .nd (.lkT _ _) _, _, h => by simp [D.pl] at h
  | n, m + 1, _, .nd (.lsA _) _, _, h => by simp [D.pl] at h
  | n, m + 1, _, .nd (.ins _ _) _, _, h => by simp [D.pl] at h
  | n + 1, m, .nd .lst _, .non, _, _ => by simp [eqD, D.py, PyData.eqv]
  | n + 1, m, .nd .lst _, .bl _, _, _ => by simp [eqD, D.py, PyData.eqv]
  | n + 1, m, .nd .lst _, .int _, _, _ => by simp [eqD, D.py, PyData.eqv]
  | n + 1, m, .nd .lst _, .str _, _, _ => by simp [eqD, D.py, PyData.eqv]
  | n + 1, m, .nd .tup _, .non, _, _ => by simp [eqD, D.py, PyData.eqv]
  | n + 1, m, .nd .tup _, .bl _, _, _ => by simp [eqD, D.py, PyData.eqv]
  | n + 1, m, .nd .tup _, .int _, _, _ => by simp [eqD, D.py, PyData.eqv]
  | n + 1, m, .nd .tup _, .str _, _, _ => by simp [eqD, D.py, PyData.eqv]
  | n, m + 1, .non, .nd .lst _, _, _ => by simp [eqD, D.py, PyData.eqv]
  | n, m + 1, .bl _, .nd .lst _, _, _ => by simp [eqD, D.py, PyData.eqv]
  | n, m + 1, .int _, .nd .lst _, _, _ => by simp [eqD, D.py, PyData.eqv]
  | n, m + 1, .str _, .nd .lst _, _, _ => by simp [eqD, D.py, PyData.eqv]
  | n, m + 1, .non, .nd .tup _, _, _ => by simp [eqD, D.py, PyData.eqv]
  | n, m + 1, .bl _, .nd .tup _, _, _ => by simp [eqD, D.py, PyData.eqv]
  | n, m + 1, .int _, .nd .tup _, _, _ => by simp [eqD, D.py, PyData.eqv]
  | n, m + 1, .str _, .nd .tup _, _, _ => by simp [eqD, D.py, PyData.eqv]
theorem eqDs_py : ∀ {n m : Nat} (ds es : List D), Dspl n ds = true → Dspl m es = true → eqDs ds es = PyData.eqvAll (Dspy ds) (Dspy es)
  | n, m, [], [], _, _ => by simp [eqDs, Dspy, PyData.eqvAll]
  | n, m, [], _ :: _, _, _ => by simp [eqDs, Dspy, PyData.eqvAll]
  | n, m, _ :: _, [], _, _ => by simp [eqDs, Dspy, PyData.eqvAll]
  | n, m, d :: ds, e :: es, h, k => by
    have h' : D.pl n d = true ∧ Dspl n ds = true := by simpa [Dspl] using h
    have k' : D.pl m e = true ∧ Dspl m es = true := by simpa [Dspl] using k
    simp only [eqDs, Dspy, PyData.eqvAll, eqD_py d e h'.1 k'.1, eqDs_py ds es h'.2 k'.2]
end
section
variable {K : PySem.W.Frag} {H : Hp} {ow : Ow} {B : Hp}
mutual
theorem Rp.dp : ∀ {n : Nat} {v : V} (d : D), Rp K B v d → d.pl n = true → Dp K B v d.py
  | n, _, .non, h, _ => by cases h; exact .non
  | n, _, .bl b, h, _ => by cases h; exact .bl b
  | n, _, .int b, h, _ => by cases h; exact .int b
  | n, _, .str b, h, _ => by cases h; exact .str b
  | 0, _, .scr _, _, h => by simp [D.pl] at h
  | n + 1, _, .scr _, _, h => by simp [D.pl] at h
  | 0, _, .nd _ _, _, h => by simp [D.pl] at h
  | n + 1, _, .nd .lst ds, h, k => by
    cases h with
    | cell _ c r => exact .lst (.inl (.inl c.at_)) (Rps.dp (n := n) ds r (by simpa [D.pl] using k))
  | n + 1, _, .nd .tup ds, h, k => by
    cases h with
    | tup c _ r => exact .tup (sqT_of c) (Rps.dp (n := n) ds r (by simpa [D.pl] using k))
    | cell hn _ _ => exact absurd rfl hn
  | n + 1, _, .nd (.dK _) _, _, h => by simp [D.pl] at h
  | n + 1, _, .nd (.dT _) _, _, h => by simp [D.pl] at h
  | n + 1, _, .nd (.lkT _ _) _, _, h => by simp [D.pl] at h
  | n + 1, _, .nd (.lsA _) _, _, h => by simp [D.pl] at h
  | n + 1, _, .nd (.ins _ _) _, _, h => by simp [D.pl] at h
theorem Rps.dp : ∀ {n : Nat} {vs : List V} (ds : List D), Rps K B vs ds → Dspl n ds = true → DpAll K B vs (Dspy ds)
  | n, _, [], h, _ => by cases h; exact .nil
  | n, _, d :: ds, h, k => by
    cases h with
    | cons r s =>
      have k' : D.pl n d = true ∧ Dspl n ds = true := by simpa [Dspl] using k
      exact .cons (Rp.dp d r k'.1) (Rps.dp ds s k'.2)
end
def shL : T → Option (List D)
  | .fz (.nd .lst ds) => some ds
  | .ow .lst ds => some ds
  | _ => none
def shT : T → Option (List D)
  | .fz (.nd .tup ds) => some ds
  | .ow .tup ds => some ds
  | _ => none
theorem Ro.int {x : V} {i : Int} (h : Ro K H ow x (.fz (.int i))) : x = .int i := by
  have := h.rd; cases this; rfl
theorem Ro.str {x : V} {i : Str} (h : Ro K H ow x (.fz (.str i))) : x = .str i := by
  have := h.rd; cases this; rfl
theorem Ro.bl {x : V} {i : Bool} (h : Ro K H ow x (.fz (.bl i))) : x = .bl i := by
  have := h.rd; cases this; rfl
theorem Ro.non {x : V} (h : Ro K H ow x (.fz .non)) : x = .non := by
  have := h.rd; cases this; rfl
theorem Ro.lst {x : V} {t : T} {ds : List D} (h : Ro K H ow x t) (e : shL t = some ds) : ∃ a vs, x = .ref a ∧ H a = some (.lst vs) ∧ vs.length ≤ sizeLine ∧ Rps K (Bs H ow) vs ds := by
  unfold shL at e
  split at e
  · cases e
    obtain ⟨l, h⟩ := h
    cases Tq.fz_.mp h with
    | cell _ c r => exact ⟨_, _, rfl, bs_same H ow _ _ c.at_, c.sz, r⟩
  · cases e
    obtain ⟨l, S, h⟩ := h
    cases h with
    | ow c _ r => exact ⟨_, _, rfl, c.at_, c.sz, r⟩
  · cases e
theorem Ro.tup {x : V} {t : T} {ds : List D} (h : Ro K H ow x t) (e : shT t = some ds) : ∃ a vs, x = .ref a ∧ SqT K H a vs ∧ vs.length ≤ sizeLine ∧ Rps K (Bs H ow) vs ds := by
  unfold shT at e
  split at e
  · cases e
    obtain ⟨l, h⟩ := h
    cases Tq.fz_.mp h with
    | tup c z r => exact ⟨_, _, rfl, sqT_of (bs_same H ow _ _ c), z, r⟩
    | cell hn _ _ => exact absurd rfl hn
  · cases e
    obtain ⟨l, S, h⟩ := h
    cases h with
    | ow c _ r => exact ⟨_, _, rfl, .inl (.inl c.at_), c.sz, r⟩
  · cases e
end

def intG (C : Int → Int → Prop) (g : Int → Int → D) (t u : T) (Q : T → Prop) : Prop := match t, u with
  | .fz (.int i), .fz (.int j) => C i j ∧ Q (.fz (g i j))
  | _, _ => False
def int0G (g : Int → Int → D) (t u : T) (Q : T → Prop) : Prop := match t, u with
  | .fz (.int i), .fz (.int j) => Q (.fz (g i j))
  | _, _ => False
section
variable {K : PySem.W.Frag}
theorem g_int {C : Int → Int → Prop} {f : Int → Int → V} {g : Int → Int → D} (hf : ∀ B i j, Rp K B (f i j) (g i j)) : Op2 K (rI C f) (intG C g) := by
  intro H ow n x y t u Q Qv rx ry h k
  unfold intG at h
  split at h
  · exact ⟨_, _, rx.int, ry.int, h.1, k _ _ H ow Stp.refl (Tq.fz_.mpr (hf _ _ _)) h.2⟩
  · exact h.elim
theorem g_int0 {f : Int → Int → V} {g : Int → Int → D} (hf : ∀ B i j, Rp K B (f i j) (g i j)) : Op2 K (rI0 f) (int0G g) := by
  intro H ow n x y t u Q Qv rx ry h k
  unfold int0G at h
  split at h
  · exact ⟨_, _, rx.int, ry.int, k _ _ H ow Stp.refl (Tq.fz_.mpr (hf _ _ _)) h⟩
  · exact h.elim
def addG (t u : T) (Q : T → Prop) : Prop := match t, u with
  | .fz (.int i), .fz (.int j) => Q (.fz (.int (i + j)))
  | .fz (.str a), .fz (.str b) => a.length + b.length ≤ sizeLine ∧ Q (.fz (.str (a ++ b)))
  | .fz (.nd .tup ds), .fz (.nd .tup es) => ds.length + es.length ≤ sizeLine ∧ Q (.fz (.nd .tup (ds ++ es)))
  | .fz (.nd .lst ds), .fz (.nd .lst es) => ds.length + es.length ≤ sizeLine ∧ Q (.ow .lst (ds ++ es))
  | .fz (.nd .lst ds), .ow .lst es => ds.length + es.length ≤ sizeLine ∧ Q (.ow .lst (ds ++ es))
  | .ow .lst ds, .fz (.nd .lst es) => ds.length + es.length ≤ sizeLine ∧ Q (.ow .lst (ds ++ es))
  | .ow .lst ds, .ow .lst es => ds.length + es.length ≤ sizeLine ∧ Q (.ow .lst (ds ++ es))
  | _, _ => False
def rAddAll (K : PySem.W.Frag) : R2 := fun x y H Q => rI0 (fun i j => .int (i + j)) x y H Q ∨ (∃ i j, x = .str i ∧ y = .str j ∧ i.length + j.length ≤ sizeLine ∧ Q (.str (i ++ j)) H) ∨ rCatA K x y H Q ∨ rCat x y H Q
theorem op_addAll {X : Cx} : OpR X (binaryOp .Add) (rAddAll X.K) := op_add.or (op_add_str.or (op_catA.or op_cat))
theorem cat_of {H : Hp} {ow : Ow} {n : Nat} {x y : V} {t u : T} {ds es : List D} {Q : T → Prop} {Qv : VK} (rx : Ro K H ow x t) (ry : Ro K H ow y u) (ht : shL t = some ds) (hu : shL u = some es) (hz : ds.length + es.length ≤ sizeLine) (q : Q (.ow .lst (ds ++ es)))
    (k : ∀ v w H' ow', Stp [] n H ow H' ow' → Tq K H' ow' (.tm n) v w → Q w → Qv v H') : rCat x y H Qv := by
  obtain ⟨a, vs, e1, h1, z1, r1⟩ := rx.lst ht
  obtain ⟨b, ws, e2, h2, z2, r2⟩ := ry.lst hu
  have l1 := r1.len
  have l2 := r2.len
  refine ⟨a, b, vs, ws, e1, e2, h1, h2, by omega, fun p hp => k _ _ _ (Ow.put ow p (.tm n)) (Stp.new hp) (Tq.newL hp (by rw [List.length_append]; omega) (r1.app r2)) q⟩
theorem g_add : Op2 K (rAddAll K) addG := by
  intro H ow n x y t u Q Qv rx ry h k
  unfold addG at h
  split at h
  · exact .inl ⟨_, _, rx.int, ry.int, k _ _ H ow Stp.refl (Tq.fz_.mpr (.int _)) h⟩
  · exact .inr (.inl ⟨_, _, rx.str, ry.str, h.1, k _ _ H ow Stp.refl (Tq.fz_.mpr (.str _)) h.2⟩)
  · rename_i ds es
    obtain ⟨a, vs, e1, h1, z1, r1⟩ := rx.tup rfl
    obtain ⟨b, ws, e2, h2, z2, r2⟩ := ry.tup rfl
    have l1 := r1.len
    have l2 := r2.len
    refine .inr (.inr (.inl ⟨a, b, vs, ws, e1, e2, h1, h2, by omega, fun z => ?_, fun _ z => ?_, fun _ _ p hp => ?_⟩))
    · subst z
      cases ds with
      | cons _ _ => simp at l1
      | nil =>
        have h3 := h.2
        rw [List.nil_append] at h3
        subst e2
        exact k _ _ H ow Stp.refl (by obtain ⟨l, ry⟩ := ry; exact Tq.fz_.mpr (Tq.fz_.mp ry)) h3
    · subst z
      cases es with
      | cons _ _ => simp at l2
      | nil =>
        have h3 := h.2
        rw [List.append_nil] at h3
        subst e1
        exact k _ _ H ow Stp.refl (by obtain ⟨l, rx⟩ := rx; exact Tq.fz_.mpr (Tq.fz_.mp rx)) h3
    · have y1 : Stp [] n H ow (upd H p (.tup (vs ++ ws))) (Ow.put ow p (.tm n)) := Stp.new hp
      have q1 := Tq.newT (K := K) (l := .tm n) (vs := vs ++ ws) hp (by rw [List.length_append]; omega) (r1.app r2)
      have y2 : Stp [] n (upd H p (.tup (vs ++ ws))) (Ow.put ow p (.tm n)) (upd H p (.tup (vs ++ ws))) (Ow.mv (Ow.put ow p (.tm n)) (.tm n) .base) := Stp.mv not_tm
      exact k _ _ _ _ (y1.trans y2 (fun _ h => h) (fun _ h => h) (Nat.le_refl _) (Nat.le_refl _)) (Tq.fz_.mpr (q1.frz fun z => nomatch z)) h.2
  · exact .inr (.inr (.inr (cat_of rx ry rfl rfl h.1 h.2 k)))
  · exact .inr (.inr (.inr (cat_of rx ry rfl rfl h.1 h.2 k)))
  · exact .inr (.inr (.inr (cat_of rx ry rfl rfl h.1 h.2 k)))
  · exact .inr (.inr (.inr (cat_of rx ry rfl rfl h.1 h.2 k)))
  · exact h.elim
end
end QV

set_option Elab.async false
set_option linter.all false
set_option maxRecDepth 100000
set_option maxHeartbeats 2000000
namespace QV
open PySem L2

def scD : D → D → Bool
  | .non, .non => true | .non, .int _ => true | .int _, .non => true | .non, .bl _ => true | .bl _, .non => true | .non, .str _ => true | .str _, .non => true
  | .int _, .int _ => true | .bl _, .bl _ => true | .str _, .str _ => true
  | .int _, .str _ => true | .str _, .int _ => true | .bl _, .str _ => true | .str _, .bl _ => true
  | _, _ => false
def flD : D → Bool
  | .non => true
  | .bl _ => true
  | .int _ => true
  | .str _ => true
  | _ => false
section
variable {K : PySem.W.Frag} {B : Hp} {x y : V} {d e : D}
theorem sc_eq (rx : Rp K B x d) (ry : Rp K B y e) (h : scD d e = true) : scal x y = true ∧ decide (x = y) = eqD d e := by
  cases rx <;> cases ry <;> simp [scD] at h <;> simp [scal, eqD]
theorem fl_V (rx : Rp K B x d) (h : flD d = true) : flatV x = true := by
  cases rx <;> simp [flD] at h <;> rfl
theorem fl_eq (rx : Rp K B x d) (ry : Rp K B y e) (h : flD d = true) (h' : flD e = true) : eqV x y = eqD d e := by
  cases rx <;> cases ry <;> simp [flD] at h h' <;> simp [eqV, eqD, Bool.beq_eq_decide_eq]
theorem fl_all : ∀ {vs : List V} {ds : List D}, Rps K B vs ds → ds.all flD = true → vs.all flatV = true
  | _, _, .nil, _ => rfl
  | _, _, .cons r s, h => by
    rw [List.all_cons, Bool.and_eq_true] at h
    rw [List.all_cons, fl_V r h.1, fl_all s h.2]
    rfl
theorem fl_any (rx : Rp K B x d) (h : flD d = true) : ∀ {vs : List V} {ds : List D}, Rps K B vs ds → ds.all flD = true → inV x vs = ds.any fun z => eqD z d
  | _, _, .nil, _ => rfl
  | _, _, .cons r s, k => by
    rw [List.all_cons, Bool.and_eq_true] at k
    show ((eqV _ x) || inV x _) = _
    rw [List.any_cons, fl_eq r rx k.1 h, fl_any rx h s k.2]
theorem pl_any {n m : Nat} (h : d.pl n = true) : ∀ ds : List D, Dspl m ds = true → ((Dspy ds).any fun z => PyData.eqv z d.py) = ds.any fun z => eqD z d
  | [], _ => rfl
  | e :: ds, k => by
    have k' : D.pl m e = true ∧ Dspl m ds = true := by simpa [Dspl] using k
    show (PyData.eqv e.py d.py || (Dspy ds).any fun z => PyData.eqv z d.py) = (eqD e d || ds.any fun z => eqD z d)
    rw [eqD_py e d k'.1 h, pl_any h ds k'.2]
end
def eqG (neg : Bool) (t u : T) (Q : T → Prop) : Prop := (scD t.d u.d = true ∨ (t.d.pl 64 = true ∧ u.d.pl 64 = true)) ∧ Q (.fz (.bl (if neg then !eqD t.d u.d else eqD t.d u.d)))
def inG (neg : Bool) (t u : T) (Q : T → Prop) : Prop := match u with
  | .fz (.nd .lst es) => ((flD t.d && es.all flD) = true ∨ (t.d.pl 63 = true ∧ Dspl 63 es = true)) ∧ Q (.fz (.bl (if neg then !es.any (fun z => eqD z t.d) else es.any fun z => eqD z t.d)))
  | .ow .lst es => ((flD t.d && es.all flD) = true ∨ (t.d.pl 63 = true ∧ Dspl 63 es = true)) ∧ Q (.fz (.bl (if neg then !es.any (fun z => eqD z t.d) else es.any fun z => eqD z t.d)))
  | .fz (.nd .tup es) => (flD t.d && es.all flD) = true ∧ Q (.fz (.bl (if neg then !es.any (fun z => eqD z t.d) else es.any fun z => eqD z t.d)))
  | .ow .tup es => (flD t.d && es.all flD) = true ∧ Q (.fz (.bl (if neg then !es.any (fun z => eqD z t.d) else es.any fun z => eqD z t.d)))
  | .fz (.str z) => ∃ c, t = .fz (.str ⟨#[c]⟩) ∧ Q (.fz (.bl (if neg then !decide (c ∈ z.cps.toList) else decide (c ∈ z.cps.toList))))
  | _ => False
section
variable {K : PySem.W.Frag} {X : Cx}
def rEqAll (K : PySem.W.Frag) : R2 := fun x y H Q => rEq x y H Q ∨ rEqD K x y H Q
def rNeAll (K : PySem.W.Frag) : R2 := fun x y H Q => rNe x y H Q ∨ rNeD K x y H Q
theorem op_eqAll (hu : X.A.units + 64 < cLine) : OpR X (compareOp .Eq) (rEqAll X.K) := op_eq.or (op_eqD hu)
theorem op_neAll (hu : X.A.units + 64 < cLine) : OpR X (compareOp .NotEq) (rNeAll X.K) := op_ne.or (op_neD hu)
theorem g_eq : Op2 K (rEqAll K) (eqG false) := by
  intro H ow n x y t u Q Qv rx ry h k
  obtain ⟨h | h, q⟩ := h
  · obtain ⟨e1, e2⟩ := sc_eq rx.rd ry.rd h
    exact .inl ⟨e1, k _ _ H ow Stp.refl (Tq.fz_.mpr (by rw [e2]; exact .bl _)) q⟩
  · exact .inr ⟨_, _, rx.rd.dp _ h.1, ry.rd.dp _ h.2, D.pl_shaped h.1 (Nat.le_refl _), D.pl_shaped h.2 (Nat.le_refl _), k _ _ H ow Stp.refl (Tq.fz_.mpr (by rw [← eqD_py _ _ h.1 h.2]; exact .bl _)) q⟩
theorem g_ne : Op2 K (rNeAll K) (eqG true) := by
  intro H ow n x y t u Q Qv rx ry h k
  obtain ⟨h | h, q⟩ := h
  · obtain ⟨e1, e2⟩ := sc_eq rx.rd ry.rd h
    exact .inl ⟨e1, k _ _ H ow Stp.refl (Tq.fz_.mpr (by rw [e2]; exact .bl _)) q⟩
  · exact .inr ⟨_, _, rx.rd.dp _ h.1, ry.rd.dp _ h.2, D.pl_shaped h.1 (Nat.le_refl _), D.pl_shaped h.2 (Nat.le_refl _), k _ _ H ow Stp.refl (Tq.fz_.mpr (by rw [← eqD_py _ _ h.1 h.2]; exact .bl _)) q⟩
def rInAll (K : PySem.W.Frag) (neg : Bool) : R2 := fun x y H Q => rIn K neg x y H Q ∨ (∃ d ds, Dp K H x d ∧ Dp K H y (.list ds) ∧ SeqAt.shaped d = true ∧ SeqAt.shaped (.list ds) = true ∧ Q (.bl (if neg then !ds.any (fun z => PyData.eqv z d) else ds.any fun z => PyData.eqv z d)) H) ∨
  (∃ (c : Nat) (z : Str), x = .str ⟨#[c]⟩ ∧ y = .str z ∧ Q (.bl (if neg then !decide (c ∈ z.cps.toList) else decide (c ∈ z.cps.toList))) H)
theorem g_in (neg : Bool) : Op2 K (rInAll K neg) (inG neg) := by
  intro H ow n x y t u Q Qv rx ry h k
  have lst : ∀ {es : List D}, shL u = some es → u.d = .nd .lst es → ((flD t.d && es.all flD) = true ∨ (t.d.pl 63 = true ∧ Dspl 63 es = true)) ∧ Q (.fz (.bl (if neg then !es.any (fun z => eqD z t.d) else es.any fun z => eqD z t.d))) → rInAll K neg x y H Qv := fun {es} e1 e2 hq => by
    obtain ⟨a, vs, rfl, h1, z1, r1⟩ := ry.lst e1
    obtain ⟨hc | hc, q⟩ := hq
    · rw [Bool.and_eq_true] at hc
      refine .inl ⟨a, vs, rfl, .inl (.inl (.inl h1)), fl_V rx.rd hc.1, fl_all r1 hc.2, k _ _ H ow Stp.refl (Tq.fz_.mpr ?_) q⟩
      rw [fl_any rx.rd hc.1 (r1.mono (bs_same H ow)) hc.2]
      exact .bl _
    · have p1 : (D.nd .lst es).pl 64 = true := by simpa [D.pl] using hc.2
      have hy := ry.rd
      rw [e2] at hy
      have d1 := hy.dp _ p1
      have s1 := D.pl_shaped p1 (Nat.le_refl _)
      refine .inr (.inl ⟨t.d.py, Dspy es, rx.rd.dp _ hc.1, by simpa [D.py] using d1, D.pl_shaped hc.1 (by decide), by simpa [D.py] using s1, k _ _ H ow Stp.refl (Tq.fz_.mpr ?_) q⟩)
      rw [pl_any hc.1 es hc.2]
      exact .bl _
  have tup : ∀ {es : List D}, shT u = some es → (flD t.d && es.all flD) = true ∧ Q (.fz (.bl (if neg then !es.any (fun z => eqD z t.d) else es.any fun z => eqD z t.d))) → rInAll K neg x y H Qv := fun {es} e1 hq => by
    obtain ⟨a, vs, rfl, h1, z1, r1⟩ := ry.tup e1
    obtain ⟨hc, q⟩ := hq
    rw [Bool.and_eq_true] at hc
    refine .inl ⟨a, vs, rfl, .inr h1, fl_V rx.rd hc.1, fl_all r1 hc.2, k _ _ H ow Stp.refl (Tq.fz_.mpr ?_) q⟩
    rw [fl_any rx.rd hc.1 (r1.mono (bs_same H ow)) hc.2]
    exact .bl _
  unfold inG at h
  split at h
  · exact lst rfl rfl h
  · exact lst rfl rfl h
  · exact tup rfl h
  · exact tup rfl h
  · obtain ⟨c, rfl, h⟩ := h
    exact .inr (.inr ⟨_, _, rx.str, ry.str, k _ _ H ow Stp.refl (Tq.fz_.mpr (.bl _)) h⟩)
  · exact h.elim
theorem op_niAll (hu : X.A.units + 65 < cLine) : OpR X (compareOp .NotIn) (rInAll X.K true) :=
  op_notIn_seq.or (OpR.or (op_notInD hu) fun pins s σ H x y v u Q I rx ry ⟨c, z, e1, e2, q⟩ => op_notIn_sign pins s σ H x y v u Q I rx ry ⟨c, z, e1, e2, q⟩)
def ixG (t u : T) (Q : T → Prop) : Prop := match u with
  | .fz (.int i) => match t with
    | .fz (.nd .lst ds) => ∃ d, atI ds i = some d ∧ Q (.fz d)
    | .ow .lst ds => ∃ d, atI ds i = some d ∧ Q (.fz d)
    | .fz (.nd .tup ds) => ∃ d, atI ds i = some d ∧ Q (.fz d)
    | .ow .tup ds => ∃ d, atI ds i = some d ∧ Q (.fz d)
    | .fz (.str z) => z.length ≤ sizeLine ∧ ∃ c, atI z.cps.toList i = some c ∧ Q (.fz (.str ⟨#[c]⟩))
    | _ => False
  | _ => False
theorem Rps.atI {B : Hp} {vs : List V} {ds : List D} {i : Int} {d : D} (r : Rps K B vs ds) (h : L2.atI ds i = some d) : ∃ v, L2.atI vs i = some v ∧ Rp K B v d := by
  unfold L2.atI at h ⊢
  rw [r.len]
  cases e : ixN ds.length i with
  | none => rw [e] at h; cases h
  | some j =>
    rw [e] at h
    obtain ⟨v, h1, h2⟩ := r.get (i := j) (d := d) h
    exact ⟨v, h1, h2⟩
theorem g_ix : Op2 K (rIx K) ixG := by
  intro H ow n x y t u Q Qv rx ry h k
  have lst : ∀ {i : Int} {ds : List D}, y = .int i → shL t = some ds → (∃ d, atI ds i = some d ∧ Q (.fz d)) → rIx K x y H Qv := fun {i ds} ei e hd => by
    obtain ⟨d, hd, q⟩ := hd
    obtain ⟨a, vs, rfl, h1, z1, r1⟩ := rx.lst e
    obtain ⟨v, e1, r2⟩ := r1.atI hd
    exact .inl ⟨a, vs, i, v, rfl, ei, .inl (.inl h1), e1, k _ _ H ow Stp.refl (Tq.fz_.mpr r2) q⟩
  have tup : ∀ {i : Int} {ds : List D}, y = .int i → shT t = some ds → (∃ d, atI ds i = some d ∧ Q (.fz d)) → rIx K x y H Qv := fun {i ds} ei e hd => by
    obtain ⟨d, hd, q⟩ := hd
    obtain ⟨a, vs, rfl, h1, z1, r1⟩ := rx.tup e
    obtain ⟨v, e1, r2⟩ := r1.atI hd
    exact .inr (.inl ⟨a, vs, i, v, rfl, ei, h1, e1, k _ _ H ow Stp.refl (Tq.fz_.mpr r2) q⟩)
  unfold ixG at h
  split at h
  · have ei := ry.int
    split at h
    · exact lst ei rfl h
    · exact lst ei rfl h
    · exact tup ei rfl h
    · exact tup ei rfl h
    · obtain ⟨hz, c, hc, q⟩ := h
      exact .inr (.inr ⟨_, _, c, rx.str, ei, hz, hc, k _ _ H ow Stp.refl (Tq.fz_.mpr (.str _)) q⟩)
    · exact h.elim
  · exact h.elim
end

section
variable {X : Cx} {W : WX} {M Ma Mb Mc : List Nat} {e a b c : Expr} {pa pb pc : SemP} {qa qb qc : SemE} {ra rb rc root : Option Nat} {pos : Pos}
theorem q_add (ha : QP X W Ma ra a pa) (hb : QP X W Mb rb b pb) (hr : okR ra Mb = true := by decide) : QE X W (Ma ++ Mb) (.BinOp a .Add b pos) (s2 pa pb addG) := q_op op_addAll g_add ha hb hr
theorem q_sub (ha : QP X W Ma ra a pa) (hb : QP X W Mb rb b pb) (hr : okR ra Mb = true := by decide) : QE X W (Ma ++ Mb) (.BinOp a .Sub b pos) (s2 pa pb (int0G fun i j => .int (i - j))) := q_op op_sub (g_int0 fun _ _ _ => .int _) ha hb hr
theorem q_mul (ha : QP X W Ma ra a pa) (hb : QP X W Mb rb b pb) (hr : okR ra Mb = true := by decide) : QE X W (Ma ++ Mb) (.BinOp a .Mult b pos) (s2 pa pb (intG CMul fun i j => .int (i * j))) := q_op op_mul (g_int fun _ _ _ => .int _) ha hb hr
theorem q_fdiv (ha : QP X W Ma ra a pa) (hb : QP X W Mb rb b pb) (hr : okR ra Mb = true := by decide) : QE X W (Ma ++ Mb) (.BinOp a .FloorDiv b pos) (s2 pa pb (intG CDivW fun i j => .int (i / j))) := q_op op_fdivW (g_int fun _ _ _ => .int _) ha hb hr
theorem q_mod (ha : QP X W Ma ra a pa) (hb : QP X W Mb rb b pb) (hr : okR ra Mb = true := by decide) : QE X W (Ma ++ Mb) (.BinOp a .Mod b pos) (s2 pa pb (intG (fun _ j => 0 < j) fun i j => .int (i % j))) := q_op op_mod (g_int fun _ _ _ => .int _) ha hb hr
theorem q_pow (ha : QP X W Ma ra a pa) (hb : QP X W Mb rb b pb) (hr : okR ra Mb = true := by decide) : QE X W (Ma ++ Mb) (.BinOp a .Pow b pos) (s2 pa pb (intG CPow fun i j => .int (i ^ j.toNat))) := q_op op_pow (g_int fun _ _ _ => .int _) ha hb hr
theorem q_neg (ha : QP X W M root a pa) : QE X W M (.UnaryOp .USub a pos) (s1 pa fun t Q => match t with | .fz (.int i) => Q (.fz (.int (-i))) | _ => False) := q_un un_neg (fun H ow n x t Q Qv rx h k => by
  split at h
  · exact ⟨_, rx.int, k _ _ H ow Stp.refl (Tq.fz_.mpr (.int _)) h⟩
  · exact h.elim) ha
theorem q_ge (ha : QP X W Ma ra a pa) (hb : QP X W Mb rb b pb) (hr : okR ra Mb = true := by decide) : QE X W (Ma ++ Mb) (.Compare a [.GtE] [b] pos) (s2 pa pb (int0G fun i j => .bl (decide (j ≤ i)))) := q_cmp op_ge (g_int0 fun _ _ _ => .bl _) ha hb (nomark _) hr
theorem q_eq (hu : X.A.units + 65 < cLine) (ha : QP X W Ma ra a pa) (hb : QP X W Mb rb b pb) (hr : okR ra Mb = true := by decide) : QE X W (Ma ++ Mb) (.Compare a [.Eq] [b] pos) (s2 pa pb (eqG false)) := q_cmp (op_eqAll (by omega)) g_eq ha hb (nomark _) hr
end
end QV

set_option Elab.async false
set_option linter.all false
set_option maxRecDepth 100000
set_option maxHeartbeats 2000000
namespace QV
open PySem L2

def sT (q : SemE) : SemT := fun env Q E => q env (fun w env' => match w with
  | .fz (.bl b) => Q b env'
  | _ => False) E
def sAnd (qa qb : SemT) : SemT := fun env Q E => qa env (fun c env1 => (c = true → qb env1 Q E) ∧ (c = false → Q false env1)) E
def sOr (qa qb : SemT) : SemT := fun env Q E => qa env (fun c env1 => (c = true → Q true env1) ∧ (c = false → qb env1 Q E)) E
def sAndM (qa qb : SemT) : SemT := fun env Q E => qa env (fun c env1 => ∃ b : Bool, (c = true → qb env1 (fun b' env2 => b' = b ∧ env2 = env1) fun _ _ => False) ∧ Q (c && b) env1) E
def sOrM (qa qb : SemT) : SemT := fun env Q E => qa env (fun c env1 => ∃ b : Bool, (c = false → qb env1 (fun b' env2 => b' = b ∧ env2 = env1) fun _ _ => False) ∧ Q (c || b) env1) E
def sNot (qa : SemT) : SemT := fun env Q E => qa env (fun c env1 => Q (!c) env1) E
def sTV (qa : SemT) : SemE := fun env Q E => qa env (fun c env1 => Q (.fz (.bl c)) env1) E
structure QW (X : Cx) (W : WX) (M : List Nat) (e : Expr) (q : SemT) : Prop where
  run : PW X e (tT X.K W M q)
section
variable {X : Cx} {W : WX} {M Ma Mb Mc : List Nat} {e a b c : Expr} {rest : List Expr} {pa pb pc : SemP} {q qa qb qc : SemE} {ta tb tc : SemT} {ra rb rc root : Option Nat} {pos : Pos}
theorem tT_of {K : PySem.W.Frag} {t : TE} {σ : L2.St} {H : Hp} {Q : Bool → Hp → Prop} (h : tT K W M (sT q) σ H Q) (f : ∀ Qv, tQ K W M q σ H Qv → t σ H Qv) : t σ H fun x H' => ∃ k, x = .bl k ∧ Q k H' := by
  obtain ⟨n, ow, env, Qe, E, s, hq, k, x⟩ := h
  refine f _ ⟨n, ow, env, _, E, s, hq, fun v t' H' ow' env' y1 s' o r z => ?_, x⟩
  split at z
  · exact ⟨_, by have := (Tq.rd r); cases this; rfl, k _ H' ow' env' y1 s' o z⟩
  · exact z.elim
theorem t_val (h : QE X W M e q) (he : ∀ whole, isTrue e X.env whole = (do let v ← whole; standAt e.pos; holding [v] (truthy v)) := by intro _; rfl) : QT X W M e (sT q) :=
  ⟨PT_imp (pt_val h.run he) fun _ _ _ hq => tT_of (t := tQ X.K W M q) hq fun _ z => z⟩
theorem t_cmpR {op : CmpOp} {r : R2} {g : T → T → (T → Prop) → Prop} (ho : OpR X (compareOp op) r) (hg : Op2 X.K r g) (ha : QP X W Ma ra a pa) (hb : QP X W Mb rb b pb) (hm : behindInMarks op b = false) (hr : okR ra Mb = true := by decide) : QT X W (Ma ++ Mb) (.Compare a [op] [b] pos) (sT (s2 pa pb g)) :=
  ⟨PT_imp (pt_cmpR ho ha.run hb.run hm) fun _ _ _ hq => tT_of (t := tOp r _ _) hq fun _ z => op2_run hg hr z⟩
theorem t_lt (ha : QP X W Ma ra a pa) (hb : QP X W Mb rb b pb) (hr : okR ra Mb = true := by decide) : QT X W (Ma ++ Mb) (.Compare a [.Lt] [b] pos) (sT (s2 pa pb (int0G fun i j => .bl (decide (i < j))))) := t_cmpR op_lt (g_int0 fun _ _ _ => .bl _) ha hb (nomark _) hr
theorem t_gt (ha : QP X W Ma ra a pa) (hb : QP X W Mb rb b pb) (hr : okR ra Mb = true := by decide) : QT X W (Ma ++ Mb) (.Compare a [.Gt] [b] pos) (sT (s2 pa pb (int0G fun i j => .bl (decide (j < i))))) := t_cmpR op_gt (g_int0 fun _ _ _ => .bl _) ha hb (nomark _) hr
theorem t_ge (ha : QP X W Ma ra a pa) (hb : QP X W Mb rb b pb) (hr : okR ra Mb = true := by decide) : QT X W (Ma ++ Mb) (.Compare a [.GtE] [b] pos) (sT (s2 pa pb (int0G fun i j => .bl (decide (j ≤ i))))) := t_cmpR op_ge (g_int0 fun _ _ _ => .bl _) ha hb (nomark _) hr
theorem t_eq (hu : X.A.units + 65 < cLine) (ha : QP X W Ma ra a pa) (hb : QP X W Mb rb b pb) (hr : okR ra Mb = true := by decide) : QT X W (Ma ++ Mb) (.Compare a [.Eq] [b] pos) (sT (s2 pa pb (eqG false))) := t_cmpR (op_eqAll (by omega)) g_eq ha hb (nomark _) hr
theorem t_ne (hu : X.A.units + 65 < cLine) (ha : QP X W Ma ra a pa) (hb : QP X W Mb rb b pb) (hr : okR ra Mb = true := by decide) : QT X W (Ma ++ Mb) (.Compare a [.NotEq] [b] pos) (sT (s2 pa pb (eqG true))) := t_cmpR (op_neAll (by omega)) g_ne ha hb (nomark _) hr
theorem t_not (ha : QT X W M a ta) : QT X W M (.UnaryOp .Not a pos) (sNot ta) := ⟨PT_imp (pt_not ha.run) fun σ H Qv ⟨n, ow, env, Q, E, s, hq, k, x⟩ => ⟨n, ow, env, _, E, s, hq, fun b H' ow' env' y s' o z => k _ H' ow' env' y s' o z, x⟩⟩
theorem QW.t (h : QW X W M e ta) : QT X W M e ta := ⟨h.run.pt⟩
theorem PW_imp {t t' : TT} (h : PW X e t) (f : ∀ σ H Q, t' σ H Q → t σ H Q) : PW X e t' := ⟨fun wh pins s σ H Q I q => h.run wh pins s σ H Q I (f _ _ _ q)⟩
theorem w_and1 (ha : QT X W M a ta) : QW X W M (.BoolOp .And [a] pos) ta := ⟨pw_and1 ha.run⟩
theorem w_or1 (ha : QT X W M a ta) : QW X W M (.BoolOp .Or [a] pos) ta := ⟨pw_or1 ha.run⟩
theorem w_and (ha : QT X W Ma a ta) (hb : QW X W Mb (.BoolOp .And (b :: rest) pos) tb) : QW X W (Ma ++ Mb) (.BoolOp .And (a :: b :: rest) pos) (sAnd ta tb) := ⟨PW_imp (pw_and ha.run hb.run) fun σ H Qv ⟨n, ow, env, Q, E, s, hq, k, x⟩ =>
  ⟨n, ow, env, _, E, s, hq, fun c H1 ow1 env1 y1 s1 o1 z => by
    cases c with
    | true => exact ⟨n, ow1, env1, Q, E, s1, z.1 rfl, fun d H2 ow2 env2 y2 s2 o2 z2 => k d H2 ow2 env2 (y1.trans y2 subl subr (Nat.le_refl _) (Nat.le_refl _)) s2 (o1.trans o2 subl subr) z2, x.step y1 o1 subl subr (Nat.le_refl _) (Nat.le_refl _)⟩
    | false => exact k false H1 ow1 env1 (y1.mono subl (Nat.le_refl _)) s1 (o1.mono subl) (z.2 rfl), fun r d H' ow' env' y s' o => x r d H' ow' env' (y.mono subl (Nat.le_refl _)) s' (o.mono subl)⟩⟩
theorem w_or (ha : QT X W Ma a ta) (hb : QW X W Mb (.BoolOp .Or (b :: rest) pos) tb) : QW X W (Ma ++ Mb) (.BoolOp .Or (a :: b :: rest) pos) (sOr ta tb) := ⟨PW_imp (pw_or ha.run hb.run) fun σ H Qv ⟨n, ow, env, Q, E, s, hq, k, x⟩ =>
  ⟨n, ow, env, _, E, s, hq, fun c H1 ow1 env1 y1 s1 o1 z => by
    cases c with
    | false => exact ⟨n, ow1, env1, Q, E, s1, z.2 rfl, fun d H2 ow2 env2 y2 s2 o2 z2 => k d H2 ow2 env2 (y1.trans y2 subl subr (Nat.le_refl _) (Nat.le_refl _)) s2 (o1.trans o2 subl subr) z2, x.step y1 o1 subl subr (Nat.le_refl _) (Nat.le_refl _)⟩
    | true => exact k true H1 ow1 env1 (y1.mono subl (Nat.le_refl _)) s1 (o1.mono subl) (z.1 rfl), fun r d H' ow' env' y s' o => x r d H' ow' env' (y.mono subl (Nat.le_refl _)) s' (o.mono subl)⟩⟩
theorem w_andM (ha : QT X W Ma a ta) (hb : QW X W Mb (.BoolOp .And (b :: rest) pos) tb) : QW X W (Ma ++ Mb) (.BoolOp .And (a :: b :: rest) pos) (sAndM ta tb) := ⟨PW_imp (pw_and ha.run hb.run) fun σ H Qv ⟨n, ow, env, Q, E, s, hq, k, x⟩ =>
  ⟨n, ow, env, _, E, s, hq, fun c H1 ow1 env1 y1 s1 o1 z => by
    obtain ⟨b', z1, z2⟩ := z
    cases c with
    | true =>
      refine ⟨n, ow1, env1, _, _, s1, z1 rfl, fun d H2 ow2 env2 y2 s2 o2 q2 => ?_, fun r d H' ow' env' y s' o zz ez => ez.elim⟩
      obtain ⟨rfl, rfl⟩ := q2
      exact k d H2 ow2 env2 (y1.trans y2 subl subr (Nat.le_refl _) (Nat.le_refl _)) s2 (o1.trans o2 subl subr) z2
    | false => exact k false H1 ow1 env1 (y1.mono subl (Nat.le_refl _)) s1 (o1.mono subl) z2, fun r d H' ow' env' y s' o => x r d H' ow' env' (y.mono subl (Nat.le_refl _)) s' (o.mono subl)⟩⟩
theorem w_orM (ha : QT X W Ma a ta) (hb : QW X W Mb (.BoolOp .Or (b :: rest) pos) tb) : QW X W (Ma ++ Mb) (.BoolOp .Or (a :: b :: rest) pos) (sOrM ta tb) := ⟨PW_imp (pw_or ha.run hb.run) fun σ H Qv ⟨n, ow, env, Q, E, s, hq, k, x⟩ =>
  ⟨n, ow, env, _, E, s, hq, fun c H1 ow1 env1 y1 s1 o1 z => by
    obtain ⟨b', z1, z2⟩ := z
    cases c with
    | false =>
      refine ⟨n, ow1, env1, _, _, s1, z1 rfl, fun d H2 ow2 env2 y2 s2 o2 q2 => ?_, fun r d H' ow' env' y s' o zz ez => ez.elim⟩
      obtain ⟨rfl, rfl⟩ := q2
      exact k d H2 ow2 env2 (y1.trans y2 subl subr (Nat.le_refl _) (Nat.le_refl _)) s2 (o1.trans o2 subl subr) z2
    | true => exact k true H1 ow1 env1 (y1.mono subl (Nat.le_refl _)) s1 (o1.mono subl) z2, fun r d H' ow' env' y s' o => x r d H' ow' env' (y.mono subl (Nat.le_refl _)) s' (o.mono subl)⟩⟩
def sAndV (qa qb : SemE) : SemE := fun env Q E => sT qa env (fun c env1 => (c = true → qb env1 Q E) ∧ (c = false → Q (.fz (.bl false)) env1)) E
theorem q_one {op} (h : QE X W M a q) : QE X W M (.BoolOp op [a] pos) q := ⟨pe_one h.run⟩
theorem bl_of {K : PySem.W.Frag} {H : Hp} {ow : Ow} {l : Lab} {v : V} {b : Bool} (r : Tq K H ow l v (.fz (.bl b))) : v = .bl b := by have := Tq.rd r; cases this; rfl
theorem q_and (ha : QE X W Ma a qa) (hb : QE X W Mb (.BoolOp .And (b :: rest) pos) qb) : QE X W (Ma ++ Mb) (.BoolOp .And (a :: b :: rest) pos) (sAndV qa qb) := ⟨PE_imp (pe_and ha.run hb.run) fun σ H Qv ⟨n, ow, env, Q, E, s, hq, k, x⟩ =>
  ⟨n, ow, env, _, E, s, hq, fun v t H1 ow1 env1 y1 s1 o1 r1 z => by
    split at z
    · rename_i c
      refine ⟨c, bl_of r1, ?_⟩
      cases c with
      | true =>
        rw [if_pos rfl]
        exact ⟨n, ow1, env1, Q, E, s1, z.1 rfl, fun v2 t2 H2 ow2 env2 y2 s2 o2 r2 z2 => k v2 t2 H2 ow2 env2 (y1.trans y2 subl subr (Nat.le_refl _) (Nat.le_refl _)) s2 (o1.trans o2 subl subr) r2 z2, x.step y1 o1 subl subr (Nat.le_refl _) (Nat.le_refl _)⟩
      | false =>
        rw [if_neg Bool.false_ne_true]
        exact k _ _ H1 ow1 env1 (y1.mono subl (Nat.le_refl _)) s1 (o1.mono subl) (Tq.fz_.mpr (.bl _)) (z.2 rfl)
    · exact z.elim, fun r d H' ow' env' y s' o => x r d H' ow' env' (y.mono subl (Nat.le_refl _)) s' (o.mono subl)⟩⟩
def sNotV (qa : SemE) : SemE := fun env Q E => sT qa env (fun c env1 => Q (.fz (.bl (!c))) env1) E
theorem q_not (ha : QE X W M a qa) : QE X W M (.UnaryOp .Not a pos) (sNotV qa) := ⟨PE_imp (pe_not ha.run) fun σ H Qv ⟨n, ow, env, Q, E, s, hq, k, x⟩ =>
  ⟨n, ow, env, _, E, s, hq, fun v t H1 ow1 env1 y1 s1 o1 r1 z => by
    split at z
    · rename_i c
      exact ⟨c, bl_of r1, k _ _ H1 ow1 env1 y1 s1 o1 (Tq.fz_.mpr (.bl _)) z⟩
    · exact z.elim, x⟩⟩
def sChain (pa pb pc : SemP) (f g : Int → Int → Bool) : SemT := fun env Q E => pa env (fun t _ env1 => pb env1 (fun u _ env2 => match t, u with
  | .fz (.int i), .fz (.int j) => ∃ b : Bool, (f i j = true → pc env2 (fun w _ env3 => match w with
    | .fz (.int k) => g j k = b ∧ env3 = env2
    | _ => False) fun _ _ => False) ∧ Q (f i j && b) env2
  | _, _ => False) E) E
theorem chain_run {f g : Int → Int → Bool} (hr : okR ra Mb = true) {σ : L2.St} {H : Hp} {Qb : Bool → Hp → Prop} {Qv : VK} (h : tT X.K W ((Ma ++ Mb) ++ Mc) (sChain pa pb pc f g) σ H Qb) (hQ : ∀ b H', Qb b H' → Qv (.bl b) H') :
    tChain (rI0 fun i j => .bl (f i j)) (rI0 fun i j => .bl (g i j)) (tP X.K W Ma ra pa) (tP X.K W Mb rb pb) (tP X.K W Mc rc pc) σ H Qv := by
  obtain ⟨n, ow, env, Q, E, s, hq, k, x⟩ := h
  refine two (Ma := Ma) (Mb := Mb) (E := E) (R := fun t u env2 => match t, u with
    | .fz (.int i), .fz (.int j) => ∃ b : Bool, (f i j = true → pc env2 (fun w _ env3 => match w with
      | .fz (.int k) => g j k = b ∧ env3 = env2
      | _ => False) fun _ _ => False) ∧ Q (f i j && b) env2
    | _, _ => False) hr s hq (fun x' y t u H' ow' env' y1 s' o r1 r2 z => ?_) fun r d H' ow' env' y s' o => x r d H' ow' env' (y.mono subl (Nat.le_refl _)) s' (o.mono subl)
  split at z
  · rename_i i j
    obtain ⟨b', z1, z2⟩ := z
    refine ⟨i, j, r1.int, r2.int, _, rfl, ?_⟩
    have ey := r2.int
    cases e : f i j with
    | false =>
      rw [e] at z2
      rw [if_neg Bool.false_ne_true]
      exact hQ _ _ (k false H' ow' env' (y1.mono subl (Nat.le_refl _)) s' (o.mono subl) z2)
    | true =>
      rw [e] at z2
      rw [if_pos rfl]
      refine ⟨n, ow', env', _, _, s', z1 e, fun v w pt H2 ow2 env2 y2 s2 o2 r3 q3 => ?_, fun r d H' ow' env' y s' o zz ez => ez.elim⟩
      have ro := r3.ro s2
      split at q3
      · rename_i kk
        obtain ⟨q3, rfl⟩ := q3
        refine ⟨j, kk, ey, ro.int, ?_⟩
        show Qv (.bl (g j kk)) H2
        rw [q3]
        exact hQ _ _ (k b' H2 ow2 _ (y1.trans y2 subl subr (Nat.le_refl _) (Nat.le_refl _)) s2 (o.mono subl) z2)
      · exact q3.elim
  · exact z.elim
theorem t_chain {op op' : CmpOp} {f g : Int → Int → Bool} (ho : OpR X (compareOp op) (rI0 fun i j => .bl (f i j))) (ho' : OpR X (compareOp op') (rI0 fun i j => .bl (g i j))) (ha : QP X W Ma ra a pa) (hb : QP X W Mb rb b pb) (hc : QP X W Mc rc c pc)
    (hm : lastMarks [op, op'] [b, c] = false := by with_unfolding_all rfl) (hr : okR ra Mb = true := by decide) : QT X W ((Ma ++ Mb) ++ Mc) (.Compare a [op, op'] [b, c] pos) (sChain pa pb pc f g) :=
  ⟨PT_imp (pt_chain ho ho' ha.run hb.run hc.run hm) fun σ H Qv h => chain_run hr h fun b H' q => ⟨b, rfl, q⟩⟩
theorem q_chain {op op' : CmpOp} {f g : Int → Int → Bool} (ho : OpR X (compareOp op) (rI0 fun i j => .bl (f i j))) (ho' : OpR X (compareOp op') (rI0 fun i j => .bl (g i j))) (ha : QP X W Ma ra a pa) (hb : QP X W Mb rb b pb) (hc : QP X W Mc rc c pc)
    (hm : lastMarks [op, op'] [b, c] = false := by with_unfolding_all rfl) (hr : okR ra Mb = true := by decide) : QE X W ((Ma ++ Mb) ++ Mc) (.Compare a [op, op'] [b, c] pos) (sTV (sChain pa pb pc f g)) :=
  ⟨PE_imp (pe_chain ho ho' ha.run hb.run hc.run hm) fun σ H Qv ⟨n, ow, env, Q, E, s, hq, k, x⟩ => chain_run (Qb := fun b H' => ∃ ow' env', Stp ((Ma ++ Mb) ++ Mc) n H ow H' ow' ∧ StOk X.K H' ow' σ env' ∧ Out ((Ma ++ Mb) ++ Mc) env env' ∧ Q (.fz (.bl b)) env') hr
    ⟨n, ow, env, _, E, s, hq, fun b H' ow' env' y s' o z => ⟨ow', env', y, s', o, z⟩, x⟩ fun b H' ⟨ow', env', y, s', o, z⟩ => k _ _ H' ow' env' y s' o (Tq.fz_.mpr (.bl _)) z⟩
end
end QV

set_option Elab.async false
set_option linter.all false
set_option maxRecDepth 100000
set_option maxHeartbeats 2000000
namespace QV
open PySem L2

structure EndsQ where
  nx : Env → Prop
  rt : T → Env → Prop
  bk : Env → Prop
  ct : Env → Prop
  ex : XQ
abbrev SemS := EndsQ → Env → Prop
structure Fs (H : Hp) (ow : Ow) (H' : Hp) (ow' : Ow) : Prop where
  go : ∀ a o, H a = some o → (ow a = .fr ∨ ow a = .base) → H' a = some o ∧ ow' a = ow a
  tp : ∀ a vs, H a = some (.tup vs) → H' a = some (.tup vs)
instance {H : Hp} {ow : Ow} {H' : Hp} {ow' : Ow} : CoeFun (Fs H ow H' ow') (fun _ => ∀ a o, H a = some o → (ow a = .fr ∨ ow a = .base) → H' a = some o ∧ ow' a = ow a) := ⟨Fs.go⟩
def Ios (IO : List Nat) (σ σ' : L2.St) : Prop := ∀ i ∈ IO, σ'[i]? = σ[i]?
section
variable {K : PySem.W.Frag} {H H' H1 H2 : Hp} {ow ow' ow1 ow2 : Ow} {M : List Nat} {n : Nat} {σ σ' σ1 : L2.St} {IO : List Nat}
theorem Stp.fs (x : Stp M n H ow H' ow') : Fs H ow H' ow' := ⟨fun a o e q => x a o e (by rcases q with q | q <;> rw [q] <;> trivial), x.tp⟩
theorem Fs.refl : Fs H ow H ow := ⟨fun _ _ e _ => ⟨e, rfl⟩, fun _ _ e => e⟩
theorem Fs.trans (x : Fs H ow H1 ow1) (y : Fs H1 ow1 H2 ow2) : Fs H ow H2 ow2 := ⟨fun a o e q => by
  obtain ⟨e1, q1⟩ := x a o e q
  obtain ⟨e2, q2⟩ := y a o e1 (by rw [q1]; exact q)
  exact ⟨e2, q2.trans q1⟩, fun a vs e => y.tp a vs (x.tp a vs e)⟩
theorem Fs.bs (x : Fs H ow H' ow') : Same (Bs H ow) (Bs H' ow') := bs_map (fun a o e q => by
  obtain ⟨h1, h2⟩ := x a o e (.inr q)
  exact ⟨h1, h2.trans q⟩) x.tp
theorem Ios.refl : Ios IO σ σ := fun _ _ => rfl
theorem Ios.trans (x : Ios IO σ σ1) (y : Ios IO σ1 σ') : Ios IO σ σ' := fun i h => (y i h).trans (x i h)
end
def Bh (K : PySem.W.Frag) (IO : List Nat) (σ : L2.St) (H : Hp) (ow : Ow) (D : L2.St → Hp → Prop) (De : Env → Prop) : Prop :=
  ∀ (σ' : L2.St) (H' : Hp) (ow' : Ow) (env' : Env), Fs H ow H' ow' → Ios IO σ σ' → StOk K H' ow' σ' env' → De env' → D σ' H'
def BhR (K : PySem.W.Frag) (IO : List Nat) (σ : L2.St) (H : Hp) (ow : Ow) (D : VK) (De : T → Env → Prop) : Prop :=
  ∀ (v : V) (t : T) (σ' : L2.St) (H' : Hp) (ow' : Ow) (env' : Env), Fs H ow H' ow' → Ios IO σ σ' → StOk K H' ow' σ' env' → Tq K H' ow' (.tm 0) v t → De t env' → D v H'
def BhX (K : PySem.W.Frag) (W : WX) (IO : List Nat) (σ : L2.St) (H : Hp) (ow : Ow) (De : XQ) : Prop :=
  ∀ (r : Rz) (d : Option Addr) (σ' : L2.St) (H' : Hp) (ow' : Ow) (env' : Env), Fs H ow H' ow' → Ios IO σ σ' → StOk K H' ow' σ' env' → Rzp K H' ow' d r → De r env' → W (.ref r.C) d σ' H'
structure Bhs (K : PySem.W.Frag) (W : WX) (IO : List Nat) (σ : L2.St) (H : Hp) (ow : Ow) (D : Ends) (De : EndsQ) : Prop where
  nx : Bh K IO σ H ow D.nx De.nx
  rt : BhR K IO σ H ow D.rt De.rt
  bk : Bh K IO σ H ow D.bk De.bk
  ct : Bh K IO σ H ow D.ct De.ct
  ex : BhX K W IO σ H ow De.ex
def tS (K : PySem.W.Frag) (W : WX) (IO : List Nat) (q : SemS) : TS := fun D σ H => ∃ (ow : Ow) (env : Env) (De : EndsQ), StOk K H ow σ env ∧ q De env ∧ Bhs K W IO σ H ow D De
structure QS (X : Cx) (W : WX) (IO : List Nat) (st : Stmt) (q : SemS) : Prop where
  run : PS X st (tS X.K W IO q)
structure QSs (X : Cx) (W : WX) (IO : List Nat) (st : List Stmt) (q : SemS) : Prop where
  run : PSs X st (tS X.K W IO q)
theorem PS_imp {X : Cx} {st : Stmt} {t t' : TS} (h : PS X st t) (f : ∀ D σ H, t' D σ H → t D σ H) : PS X st t' := ⟨fun pins s σ H D I q => h.run pins s σ H D I (f _ _ _ q)⟩
theorem PSs_imp {X : Cx} {st : List Stmt} {t t' : TS} (h : PSs X st t) (f : ∀ D σ H, t' D σ H → t D σ H) : PSs X st t' := ⟨fun pins s σ H D I q => h.run pins s σ H D I (f _ _ _ q)⟩
section
variable {K : PySem.W.Frag} {W : WX} {IO : List Nat} {σ σ1 : L2.St} {H H1 : Hp} {ow ow1 : Ow} {D : Ends} {De : EndsQ}
theorem Bh.step {D : L2.St → Hp → Prop} {De : Env → Prop} (k : Bh K IO σ H ow D De) (x : Fs H ow H1 ow1) (y : Ios IO σ σ1) : Bh K IO σ1 H1 ow1 D De := fun σ' H' ow' env' f i s z => k σ' H' ow' env' (x.trans f) (y.trans i) s z
theorem BhR.step {D : VK} {De : T → Env → Prop} (k : BhR K IO σ H ow D De) (x : Fs H ow H1 ow1) (y : Ios IO σ σ1) : BhR K IO σ1 H1 ow1 D De := fun v t σ' H' ow' env' f i s z => k v t σ' H' ow' env' (x.trans f) (y.trans i) s z
theorem BhX.step {De : XQ} (k : BhX K W IO σ H ow De) (x : Fs H ow H1 ow1) (y : Ios IO σ σ1) : BhX K W IO σ1 H1 ow1 De := fun v t σ' H' ow' env' f i s z => k v t σ' H' ow' env' (x.trans f) (y.trans i) s z
theorem Bhs.step (k : Bhs K W IO σ H ow D De) (x : Fs H ow H1 ow1) (y : Ios IO σ σ1) : Bhs K W IO σ1 H1 ow1 D De := ⟨k.nx.step x y, k.rt.step x y, k.bk.step x y, k.ct.step x y, k.ex.step x y⟩
theorem BhX.xk {M : List Nat} {n : Nat} {env : Env} {E : XQ} (k : BhX K W IO σ H ow E) : Xk K W M σ H n ow env E := fun r d H' ow' env' y s _ z e => k r d σ H' ow' env' y.fs Ios.refl s z e
end

def sSeq (a b : SemS) : SemS := fun D env => a { D with nx := b D } env
def sNext : SemS := fun D env => D.nx env
def sSet (i : Nat) (q : SemE) : SemS := fun D env => q env (fun t env1 => D.nx (env1.set i (some t))) D.ex
def sRet (q : SemE) : SemS := fun D env => q env D.rt D.ex
def sDrop (q : SemE) : SemS := fun D env => q env (fun _ env1 => D.nx env1) D.ex
def sIfS (t : SemT) (a b : SemS) : SemS := fun D env => t env (fun c env1 => (c = true → a D env1) ∧ (c = false → b D env1)) D.ex
def sNever : SemS := fun _ _ => False
inductive CutG (q : SemS) (D : EndsQ) (env : Env) : Prop
  | mk (h : ∃ R : Env → Prop, q { D with nx := R } env ∧ ∀ env', R env' → D.nx env')
  | no (h : False)
theorem CutG.ex {q : SemS} {D : EndsQ} {env : Env} : CutG q D env → ∃ R : Env → Prop, q { D with nx := R } env ∧ ∀ env', R env' → D.nx env'
  | .mk h => h
  | .no h => h.elim
def sCut (q : SemS) : SemS := fun D env => CutG q D env
theorem StOk.set {K : PySem.W.Frag} {H : Hp} {ow : Ow} {σ : L2.St} {env : Env} {i : Nat} {v : V} {t : T} (s : StOk K H ow σ env) (h : Tq K H ow (.sl i) v t) : StOk K H ow (σ.set i (some v)) (env.set i (some t)) := ⟨by rw [List.length_set, List.length_set]; exact s.len, fun j u e => by
  by_cases hj : i = j
  · subst hj
    have hl : i < env.length := by
      refine Nat.lt_of_not_le fun z => ?_
      rw [List.getElem?_eq_none (by simpa using z)] at e
      cases e
    rw [List.getElem?_set_self hl] at e
    cases e
    exact ⟨v, List.getElem?_set_self (by rw [← s.len]; exact hl), h⟩
  · rw [List.getElem?_set_ne hj] at e
    obtain ⟨w, e1, q⟩ := s.at_ j u e
    exact ⟨w, by rw [List.getElem?_set_ne hj]; exact e1, q⟩⟩
section
variable {X : Cx} {W : WX} {IO M : List Nat} {e : Expr} {q : SemE} {st : Stmt} {rest : List Stmt} {a b : SemS} {pos pos' : Pos}
theorem ss_nil : QSs X W IO [] sNext := ⟨PSs_imp pss_nil fun D σ H ⟨ow, env, De, s, hq, k⟩ => k.nx σ H ow env Fs.refl Ios.refl s hq⟩
theorem seq_run {K : PySem.W.Frag} {t u : TS} {a b : SemS} {D : Ends} {σ : L2.St} {H : Hp} (h : tS K W IO (sSeq a b) D σ H) (f1 : ∀ D, tS K W IO a D σ H → t D σ H) (f2 : ∀ σ' H', tS K W IO b D σ' H' → u D σ' H') : tSeq t u D σ H := by
  obtain ⟨ow, env, De, s, hq, k⟩ := h
  exact f1 _ ⟨ow, env, _, s, hq, ⟨fun σ' H' ow' env' x y s' z => f2 σ' H' ⟨ow', env', De, s', z, k.step x y⟩, k.rt, k.bk, k.ct, k.ex⟩⟩
theorem ss_cons (h1 : QS X W IO st a) (h2 : QSs X W IO rest b) : QSs X W IO (st :: rest) (sSeq a b) := ⟨PSs_imp (pss_cons h1.run h2.run) fun _ _ _ h => seq_run h (fun _ z => z) fun _ _ z => z⟩
theorem ss_one (h1 : QS X W IO st a) : QSs X W IO [st] a := ⟨pss_one h1.run⟩
theorem s_never : QS X W IO st sNever := ⟨PS_imp ps_never fun D σ H ⟨_, _, _, _, hq, _⟩ => hq⟩
theorem s_expr (he : QE X W M e q) (hs : swapsWith e none pos.line X.env = pure false := by rfl) : QS X W IO (.Expr e pos) (sDrop q) := ⟨PS_imp (ps_expr he.run hs) fun D σ H ⟨ow, env, De, s, hq, k⟩ =>
  ⟨0, ow, env, _, De.ex, s, hq, fun v t H' ow' env' y s' _ r z => k.nx σ H' ow' env' y.fs Ios.refl s' z, k.ex.xk⟩⟩
theorem s_ret (he : QE X W M e q) : QS X W IO (.Return (some e) pos) (sRet q) := ⟨PS_imp (ps_ret he.run) fun D σ H ⟨ow, env, De, s, hq, k⟩ =>
  ⟨0, ow, env, _, De.ex, s, hq, fun v t H' ow' env' y s' _ r z => k.rt v t σ H' ow' env' y.fs Ios.refl s' r z, k.ex.xk⟩⟩
theorem s_if {c : Expr} {sa sb : List Stmt} {tc : SemT} (hc : QT X W M c tc) (ha : QSs X W IO sa a) (hb : QSs X W IO sb b) : QS X W IO (.If c sa sb pos) (sIfS tc a b) := ⟨PS_imp (ps_if hc.run ha.run hb.run) fun D σ H ⟨ow, env, De, s, hq, k⟩ =>
  ⟨0, ow, env, _, De.ex, s, hq, fun d H' ow' env' y s' _ z => by
    cases d with
    | true => rw [if_pos rfl]; exact ⟨ow', env', De, s', z.1 rfl, k.step y.fs Ios.refl⟩
    | false => rw [if_neg Bool.false_ne_true]; exact ⟨ow', env', De, s', z.2 rfl, k.step y.fs Ios.refl⟩, k.ex.xk⟩⟩
theorem QS.cut (h : QS X W IO st a) : QS X W IO st (sCut a) := ⟨PS_imp h.run fun D σ H ⟨ow, env, De, s, hG, k⟩ =>
  have ⟨R, hq, hR⟩ := hG.ex
  ⟨ow, env, { De with nx := R }, s, hq, ⟨fun σ' H' ow' env' x y s' z => k.nx σ' H' ow' env' x y s' (hR _ z), k.rt, k.bk, k.ct, k.ex⟩⟩⟩
theorem into_slot {K : PySem.W.Frag} {H : Hp} {ow : Ow} {σ : L2.St} {env : Env} {i : Nat} {v : V} {t : T} (s : StOk K H ow σ env) (r : Tq K H ow (.tm 0) v t) : Stp [] 0 H ow H (Ow.mv ow (.tm 0) (.sl i)) ∧ StOk K H (Ow.mv ow (.tm 0) (.sl i)) (σ.set i (some v)) (env.set i (some t)) :=
  have y : Stp [] 0 H ow H (Ow.mv ow (.tm 0) (.sl i)) := Stp.mv not_tm
  ⟨y, (s.stp0 y).set (r.mv fun z => nomatch z)⟩
theorem ios_set {IO : List Nat} {σ : L2.St} {i : Nat} {v : Option V} (h : i ∉ IO) : Ios IO σ (σ.set i v) := fun j hj => List.getElem?_set_ne fun z => h (by rw [z]; exact hj)
theorem s_set (i : Nat) {x : Str} (he : QE X W M e q) (hN : X.N.Nodup) (hi : X.N[i]? = some x := by rfl) (hx : Loc X.env.scope x := by first | exact Or.inl rfl | exact Or.inr rfl) (hio : i ∉ IO := by decide)
    (hs : swapsWith e (some (.Name x pos')) pos.line X.env = pure false := by rfl) (hf : X.fn x = true ∨ X.env.scope.names.lookup x = some .local := by first | exact .inl rfl | exact .inr rfl) : QS X W IO (.Assign [.Name x pos'] e pos) (sSet i q) :=
  ⟨PS_imp (ps_set (i := i) hN hi hx he.run hs hf) fun D σ H ⟨ow, env, De, s, hq, k⟩ => ⟨0, ow, env, _, De.ex, s, hq, fun v t H' ow' env' y s' _ r z =>
    have ⟨y2, s2⟩ := into_slot s' r
    k.nx _ _ _ _ (y.fs.trans y2.fs) (ios_set hio) s2 z, k.ex.xk⟩⟩
end
end QV

set_option Elab.async false
set_option linter.all false
set_option maxRecDepth 100000
set_option maxHeartbeats 2000000
namespace QV
open PySem L2

structure Tch (SS : List Nat) (σ σ' : L2.St) : Prop where
  len : σ'.length = σ.length
  eq : ∀ i, i ∉ SS → σ'[i]? = σ[i]?
theorem Tch.refl {SS : List Nat} {σ : L2.St} : Tch SS σ σ := ⟨rfl, fun _ _ => rfl⟩
theorem Tch.trans {S1 S2 S3 : List Nat} {σ σ1 σ2 : L2.St} (x : Tch S1 σ σ1) (y : Tch S2 σ1 σ2) (h1 : ∀ i ∈ S1, i ∈ S3) (h2 : ∀ i ∈ S2, i ∈ S3) : Tch S3 σ σ2 := ⟨y.len.trans x.len, fun i hi => (y.eq i fun z => hi (h2 i z)).trans (x.eq i fun z => hi (h1 i z))⟩
theorem Tch.ios {SS IO : List Nat} {σ σ' : L2.St} (x : Tch SS σ σ') (h : ∀ i ∈ IO, i ∉ SS) : Ios IO σ σ' := fun i hi => x.eq i (h i hi)
abbrev SemG := D → Env → (Env → Prop) → Prop
abbrev SemGs := List D → Env → (Env → Prop) → Prop
def tG (K : PySem.W.Frag) (SS : List Nat) (g : SemG) : TG := fun v σ H Q => ∃ (ow : Ow) (env : Env) (d : D) (k : Env → Prop), StOk K H ow σ env ∧ Rp K (Bs H ow) v d ∧ g d env k ∧
  ∀ σ' env', Tch SS σ σ' → Out SS env env' → StOk K H ow σ' env' → k env' → Q σ' H
def tGs (K : PySem.W.Frag) (SS : List Nat) (g : SemGs) : TGs := fun vs σ H Q => ∃ (ow : Ow) (env : Env) (ds : List D) (k : Env → Prop), StOk K H ow σ env ∧ Rps K (Bs H ow) vs ds ∧ g ds env k ∧
  ∀ σ' env', Tch SS σ σ' → Out SS env env' → StOk K H ow σ' env' → k env' → Q σ' H
structure QG (X : Cx) (SS : List Nat) (tg : Expr) (g : SemG) : Prop where
  run : PG X tg (tG X.K SS g)
structure QGs (X : Cx) (SS : List Nat) (tg : List Expr) (g : SemGs) : Prop where
  run : PGs X tg (tGs X.K SS g)
theorem PG_imp {X : Cx} {e : Expr} {t t' : TG} (h : PG X e t) (f : ∀ v σ H Q, t' v σ H Q → t v σ H Q) : PG X e t' := ⟨fun pins s σ H v u Q I r q => h.run pins s σ H v u Q I r (f _ _ _ _ q)⟩
theorem PGs_imp {X : Cx} {e : List Expr} {t t' : TGs} (h : PGs X e t) (f : ∀ v σ H Q, t' v σ H Q → t v σ H Q) : PGs X e t' := ⟨fun pins s σ H v u Q I r q => h.run pins s σ H v u Q I r (f _ _ _ _ q)⟩
def gN (i : Nat) : SemG := fun d env k => k (env.set i (some (.fz d)))
def gNil0 : SemGs := fun ds env k => match ds with
  | [] => k env
  | _ => False
def gCons0 (g : SemG) (gs : SemGs) : SemGs := fun ds env k => match ds with
  | d :: ds => g d env fun env' => gs ds env' k
  | _ => False
def gTup0 (n : Nat) (gs : SemGs) : SemG := fun d env k => match d with
  | .nd .tup ds => ds.length = n ∧ gs ds env k
  | _ => False
section
variable {X : Cx} {SS S1 S2 IO : List Nat} {e : Expr} {es : List Expr} {g : SemG} {gs : SemGs} {pos : Pos}
theorem g_name (i : Nat) {x : Str} (hN : X.N.Nodup) (hi : X.N[i]? = some x := by rfl) (hx : Loc X.env.scope x := by first | exact Or.inl rfl | exact Or.inr rfl) (hf : X.fn x = true ∨ X.env.scope.names.lookup x = some .local := by first | exact .inl rfl | exact .inr rfl) : QG X [i] (.Name x pos) (gN i) :=
  ⟨PG_imp (pg_name (i := i) hN hi hx hf) fun v σ H Q ⟨ow, env, d, k, s, r, hq, h⟩ => h _ _ ⟨List.length_set, fun j hj => List.getElem?_set_ne fun z => hj (by simp [z])⟩ Out.set1 (s.set (Tq.fz_.mpr r)) hq⟩
theorem gs_nil : QGs X [] [] gNil0 := ⟨PGs_imp pgs_nil fun vs σ H Q ⟨ow, env, ds, k, s, r, hq, h⟩ => by
  cases r with
  | nil => exact ⟨rfl, h _ _ Tch.refl Out.refl s hq⟩
  | cons _ _ => exact hq.elim⟩
theorem gs_cons (h1 : QG X S1 e g) (h2 : QGs X S2 es gs) (hs : (assignEach (e :: es) X.env).map (·.2) = assign e X.env :: (assignEach es X.env).map (·.2) := by rfl) : QGs X (S1 ++ S2) (e :: es) (gCons0 g gs) := ⟨PGs_imp (pgs_cons h1.run h2.run hs) fun vs σ H Q ⟨ow, env, ds, k, s, r, hq, h⟩ => by
  cases r with
  | nil => exact hq.elim
  | cons r1 r2 => exact ⟨_, _, rfl, ow, env, _, _, s, r1, hq, fun σ' env' i1 o1 s1 z => ⟨ow, env', _, k, s1, r2, z, fun σ2 env2 i2 o2 s2 z2 => h σ2 env2 (i1.trans i2 subl subr) (o1.trans o2 subl subr) s2 z2⟩⟩⟩
theorem g_tup {k : Nat} {n : Nat} (hc : X.calm = true) (h : QGs X SS es gs) (hn : (assignEach es X.env).length = n := by rfl) (hst : (assignEach es X.env).findIdx? (·.1) = none := by rfl) : QG X SS (.Tuple es k pos) (gTup0 n gs) := ⟨PG_imp (pg_tup hc h.run hn hst) fun v σ H Q ⟨ow, env, d, k, s, r, hq, h⟩ => by
  unfold gTup0 at hq
  split at hq
  · cases r with
    | tup c z r => exact ⟨_, _, rfl, sqT_of (bs_same H ow _ _ c), by rw [r.len]; exact hq.1, ow, env, _, k, s, r, hq.2, h⟩
    | cell hn _ _ => exact absurd rfl hn
  · exact hq.elim⟩
def sAsgT (q : SemE) (g : SemG) : SemS := fun D env => q env (fun t env1 => match t with
  | .fz d => g d env1 D.nx
  | _ => False) D.ex
theorem s_asgT {W : WX} {M : List Nat} {tg : Expr} {q : SemE} (he : QE X W M e q) (hg : QG X SS tg g) (hio : ∀ i ∈ IO, i ∉ SS := by decide) (hs : swapsWithSole [tg] e pos.line X.env = pure false := by rfl) (hw : swappedStores [tg] e X.env = pure none := by rfl)
    (h1 : (assignEach [tg] X.env).map (·.2) = [assign tg X.env] := by rfl) : QS X W IO (.Assign [tg] e pos) (sAsgT q g) := ⟨PS_imp (ps_asg he.run hg.run hs hw h1) fun D σ H ⟨ow, env, De, s, hq, k⟩ =>
  ⟨0, ow, env, _, De.ex, s, hq, fun v t H' ow' env' y s' _ r z => by
    split at z
    · exact ⟨ow', env', _, _, s', Tq.fz_.mp r, z, fun σ2 env2 i2 _ s2 z2 => k.nx _ _ _ _ y.fs (i2.ios hio) s2 z2⟩
    · exact z.elim, k.ex.xk⟩⟩
end

def Ext (H : Hp) (ow : Ow) (H' : Hp) (ow' : Ow) : Prop := ∀ a o, H a = some o → H' a = some o ∧ ow' a = ow a
theorem Ext.refl {H : Hp} {ow : Ow} : Ext H ow H ow := fun _ _ e => ⟨e, rfl⟩
theorem Ext.stp {M : List Nat} {n : Nat} {H H' : Hp} {ow ow' : Ow} (x : Ext H ow H' ow') : Stp M n H ow H' ow' := ⟨fun a o e _ => x a o e, fun a vs e => (x a _ e).1⟩
theorem Ext.new {H : Hp} {ow : Ow} {p : Addr} {o : HO} {l : Lab} (h : H p = none) : Ext H ow (upd H p o) (Ow.put ow p l) := fun a u e => by
  have ne := ne_of_none e h
  exact ⟨by rw [upd_ne ne]; exact e, put_ne ne⟩
structure ItD (K : PySem.W.Frag) (H : Hp) (ow : Ow) (J : It) (ds : List D) : Prop where
  go : ∀ (i : Nat) (d : D) (H' : Hp) (ow' : Ow), Fs H ow H' ow' → ds[i]? = some d → J.go i H'
  yld : ∀ (i : Nat) (d : D) (H' : Hp) (ow' : Ow) (x : V) (H2 : Hp), Fs H ow H' ow' → ds[i]? = some d → J.yld i H' x H2 → ∃ ow2, Ext H' ow' H2 ow2 ∧ Rp K (Bs H2 ow2) x d
  stop : ∀ (H' : Hp) (ow' : Ow), Fs H ow H' ow' → J.stop ds.length H'
  sz : ds.length ≤ sizeLine
abbrev SemI := Env → (List D → Env → Prop) → XQ → Prop
def tI (K : PySem.W.Frag) (W : WX) (M : List Nat) (q : SemI) : TI := fun σ H R => ∃ (n : Nat) (ow : Ow) (env : Env) (Q : List D → Env → Prop) (E : XQ), StOk K H ow σ env ∧ q env Q E ∧
  (∀ (J : It) (ds : List D) (H' : Hp) (ow' : Ow) (env' : Env), Stp M n H ow H' ow' → StOk K H' ow' σ env' → Out M env env' → ItD K H' ow' J ds → Q ds env' → R J H') ∧ Xk K W M σ H n ow env E
structure QI (X : Cx) (W : WX) (M : List Nat) (tg e : Expr) (q : SemI) : Prop where
  run : PI X tg e (tI X.K W M q)
theorem PI_imp {X : Cx} {tg e : Expr} {t t' : TI} (h : PI X tg e t) (f : ∀ σ H R, t' σ H R → t σ H R) : PI X tg e t' := ⟨fun pins s σ H R I q => h.run pins s σ H R I (f _ _ _ q)⟩
section
variable {K : PySem.W.Frag} {H : Hp} {ow : Ow}
theorem itd_list {a : Addr} {vs : List V} {ds : List D} (h : SqL K (Bs H ow) a vs) (hz : vs.length ≤ sizeLine) (r : Rps K (Bs H ow) vs ds) : ItD K H ow (Itl K a) ds := by
  have st : ∀ {H' : Hp} {ow' : Ow}, Fs H ow H' ow' → SqL K H' a vs := fun x => ((bs_same _ _).seq (x.bs.seq h))
  refine ⟨fun i d H' ow' x e => ?_, fun i d H' ow' y H2 x e q => ?_, fun H' ow' x => ⟨vs, st x, Nat.le_of_eq r.len⟩, by rw [← r.len]; exact hz⟩
  · obtain ⟨v, e1, _⟩ := r.get e
    exact ⟨vs, v, st x, e1⟩
  · obtain ⟨rfl, hy⟩ := q
    obtain ⟨v, e1, r1⟩ := r.get e
    have ev := hy vs (st x)
    rw [e1] at ev
    cases ev
    exact ⟨ow', Ext.refl, r1.mono x.bs⟩
theorem itd_tup {a : Addr} {vs : List V} {ds : List D} (h : SqT K (Bs H ow) a vs) (hz : vs.length ≤ sizeLine) (r : Rps K (Bs H ow) vs ds) : ItD K H ow (Itt K a) ds := by
  have st : ∀ {H' : Hp} {ow' : Ow}, Fs H ow H' ow' → SqT K H' a vs := fun x => (sqT_mono (bs_same _ _) (sqT_mono x.bs h))
  refine ⟨fun i d H' ow' x e => ?_, fun i d H' ow' y H2 x e q => ?_, fun H' ow' x => ⟨vs, st x, Nat.le_of_eq r.len⟩, by rw [← r.len]; exact hz⟩
  · obtain ⟨v, e1, _⟩ := r.get e
    exact ⟨vs, v, st x, e1⟩
  · obtain ⟨rfl, hy⟩ := q
    obtain ⟨v, e1, r1⟩ := r.get e
    have ev := hy vs (st x)
    rw [e1] at ev
    cases ev
    exact ⟨ow', Ext.refl, r1.mono x.bs⟩
def rngD (lo : Int) (n : Nat) : List D := (List.range n).map fun k => D.int (lo + (k : Nat))
theorem rngD_len {lo : Int} {n : Nat} : (rngD lo n).length = n := by unfold rngD; rw [List.length_map, List.length_range]
theorem rngD_get {lo : Int} {n i : Nat} {d : D} (h : (rngD lo n)[i]? = some d) : i < n ∧ d = .int (lo + (i : Nat)) := by
  unfold rngD at h
  rw [List.getElem?_map] at h
  by_cases hi : i < n
  · rw [List.getElem?_range hi] at h
    cases h
    exact ⟨hi, rfl⟩
  · rw [List.getElem?_eq_none (by simpa using hi)] at h
    cases h
theorem itd_rng {lo : Int} {n : Nat} (hz : n ≤ sizeLine) : ItD K H ow (Itr lo n) (rngD lo n) :=
  ⟨fun i d H' ow' x e => (rngD_get e).1, fun i d H' ow' y H2 x e q => by
    obtain ⟨rfl, rfl⟩ := q
    rw [(rngD_get e).2]
    exact ⟨ow', Ext.refl, .int _⟩, fun H' ow' x => Nat.le_of_eq rngD_len.symm, by rw [rngD_len]; exact hz⟩
def enumD (ds : List D) : List D := (List.range ds.length).zipWith (fun k d => D.nd .tup [.int (k : Nat), d]) ds
theorem enumD_get {ds : List D} {i : Nat} {d : D} (h : (enumD ds)[i]? = some d) : ∃ e, ds[i]? = some e ∧ d = .nd .tup [.int (i : Nat), e] := by
  unfold enumD at h
  rw [List.getElem?_zipWith] at h
  cases e : ds[i]? with
  | none => rw [e] at h; split at h <;> simp_all
  | some y =>
    have hi : i < ds.length := (List.getElem?_eq_some_iff.mp e).1
    rw [e, List.getElem?_range hi] at h
    cases h
    exact ⟨y, rfl, rfl⟩
theorem enumD_len {ds : List D} : (enumD ds).length = ds.length := by unfold enumD; rw [List.length_zipWith, List.length_range, Nat.min_self]
theorem itd_enum {a : Addr} {vs : List V} {ds : List D} (h : SqL K (Bs H ow) a vs) (hz : vs.length ≤ sizeLine) (r : Rps K (Bs H ow) vs ds) : ItD K H ow (Ite K a) (enumD ds) := by
  have st : ∀ {H' : Hp} {ow' : Ow}, Fs H ow H' ow' → SqL K H' a vs := fun x => ((bs_same _ _).seq (x.bs.seq h))
  refine ⟨fun i d H' ow' x e => ?_, fun i d H' ow' y H2 x e q => ?_, fun H' ow' x => ⟨vs, st x, by rw [enumD_len]; exact Nat.le_of_eq r.len⟩, by rw [enumD_len, ← r.len]; exact hz⟩
  · obtain ⟨e', e1, _⟩ := enumD_get e
    obtain ⟨v, e2, _⟩ := r.get e1
    exact ⟨vs, v, st x, e2⟩
  · obtain ⟨Tt, v, rfl, hn, rfl, hy⟩ := q
    obtain ⟨e', e1, rfl⟩ := enumD_get e
    obtain ⟨w, e2, r1⟩ := r.get e1
    have ev := hy vs (st x)
    rw [e2] at ev
    cases ev
    have y : Ext H' ow' (upd H' Tt (.tup [.int (i : Nat), v])) (Ow.put ow' Tt .base) := Ext.new hn
    refine ⟨_, y, .tup ?_ (by show 2 ≤ sizeLine; decide) (.cons (.int _) (.cons (r1.mono ?_) .nil))⟩
    · rw [bs_of put_same, upd_same]
    · intro b o eb
      exact (y.stp (M := []) (n := 0)).bs b o (x.bs b o eb)
def sgnD (x : Str) : List D := x.cps.toList.map fun c => D.str ⟨#[c]⟩
theorem itd_str {x : Str} (hz : x.length ≤ sizeLine) : ItD K H ow (Its x) (sgnD x) := by
  have len : (sgnD x).length = x.cps.size := by unfold sgnD; rw [List.length_map, Array.length_toList]
  refine ⟨fun i d H' ow' _ e => ?_, fun i d H' ow' y H2 _ e q => ?_, fun H' ow' _ => by show x.cps.size ≤ _; omega, by rw [len]; exact hz⟩
  · have := (List.getElem?_eq_some_iff.mp e).1
    show i < x.cps.size
    omega
  · obtain ⟨rfl, c, e1, rfl⟩ := q
    unfold sgnD at e
    rw [List.getElem?_map, Array.getElem?_toList, e1] at e
    cases e
    exact ⟨ow', Ext.refl, .str _⟩
end
section
variable {X : Cx} {W : WX} {M Ma Mb : List Nat} {e a b tg : Expr} {q qa qb : SemE} {p pos : Pos}
def iSeq (q : SemE) (f : List D → List D) : SemI := fun env Q E => q env (fun t env1 => match t with
  | .fz (.nd .lst ds) => Q (f ds) env1
  | _ => False) E
def iSeqT (q : SemE) : SemI := fun env Q E => q env (fun t env1 => match t with
  | .fz (.nd .tup ds) => Q ds env1
  | _ => False) E
theorem fz_lst {K : PySem.W.Frag} {H : Hp} {ow : Ow} {l : Lab} {v : V} {ds : List D} (r : Tq K H ow l v (.fz (.nd .lst ds))) : ∃ a vs, v = .ref a ∧ SqL K (Bs H ow) a vs ∧ vs.length ≤ sizeLine ∧ Rps K (Bs H ow) vs ds := by
  cases Tq.fz_.mp r with
  | cell _ c r => exact ⟨_, _, rfl, .inl (.inl c.at_), c.sz, r⟩
theorem fz_tup {K : PySem.W.Frag} {H : Hp} {ow : Ow} {l : Lab} {v : V} {ds : List D} (r : Tq K H ow l v (.fz (.nd .tup ds))) : ∃ a vs, v = .ref a ∧ SqT K (Bs H ow) a vs ∧ vs.length ≤ sizeLine ∧ Rps K (Bs H ow) vs ds := by
  cases Tq.fz_.mp r with
  | tup c z r => exact ⟨_, _, rfl, sqT_of c, z, r⟩
  | cell hn _ _ => exact absurd rfl hn
theorem i_list (h : QE X W M e q) : QI X W M tg e (iSeq q id) := ⟨PI_imp (pi_list h.run) fun σ H R ⟨n, ow, env, Q, E, s, hq, k, x⟩ => ⟨n, ow, env, _, E, s, hq, fun v t H' ow' env' y s' o r z => by
  split at z
  · obtain ⟨a, vs, rfl, c, hz, r⟩ := fz_lst r
    exact ⟨a, rfl, ⟨vs, (bs_same _ _).seq c⟩, k _ _ H' ow' env' y s' o (itd_list c hz r) z⟩
  · exact z.elim, x⟩⟩
theorem i_tup (h : QE X W M e q) : QI X W M tg e (iSeqT q) := ⟨PI_imp (pi_tup h.run) fun σ H R ⟨n, ow, env, Q, E, s, hq, k, x⟩ => ⟨n, ow, env, _, E, s, hq, fun v t H' ow' env' y s' o r z => by
  split at z
  · obtain ⟨a, vs, rfl, c, hz, r⟩ := fz_tup r
    exact ⟨a, rfl, ⟨vs, sqT_mono (bs_same _ _) c⟩, k _ _ H' ow' env' y s' o (itd_tup c hz r) z⟩
  · exact z.elim, x⟩⟩
def iStr0 (q : SemE) : SemI := fun env Q E => q env (fun t env1 => match t with
  | .fz (.str x) => x.length ≤ sizeLine ∧ Q (sgnD x) env1
  | _ => False) E
theorem i_str (h : QE X W M e q) : QI X W M tg e (iStr0 q) := ⟨PI_imp (pi_str h.run) fun σ H R ⟨n, ow, env, Q, E, s, hq, k, x⟩ => ⟨n, ow, env, _, E, s, hq, fun v t H' ow' env' y s' o r z => by
  split at z
  · have := Tq.rd r
    cases this
    exact ⟨_, rfl, k _ _ H' ow' env' y s' o (itd_str z.1) z.2⟩
  · exact z.elim, x⟩⟩
theorem PA_imp {es : List Expr} {t t' : TA} (h : PA X es t) (f : ∀ σ H Q, t' σ H Q → t σ H Q) : PA X es t' := ⟨fun pos pins s σ H Q I q => h.run pos pins s σ H Q I (f _ _ _ q)⟩
def iRng (q : SemE) : SemI := fun env Q E => q env (fun t env1 => match t with
  | .fz (.int n) => n ≤ sizeLine ∧ -(2 ^ 62) ≤ n ∧ Q (rngD 0 n.toNat) env1
  | _ => False) E
theorem line62 : (sizeLine : Int) < 2 ^ 62 := by rw [sizeLine_eq]; decide
theorem i_rng (hg : Gl X "range") (hm : X.mg "range" = none) (h : QE X W M e q) (hs : starEach [e] X.env = [(false, eval e X.env)] := by rfl) : QI X W M tg (.Call (.Name "range" p) [e] [] pos) (iRng q) :=
  ⟨PI_imp (pi_range1 hg hm (pa_cons h.run pa_nil hs) hs) fun σ H R ⟨n, ow, env, Q, E, s, hq, k, x⟩ => ⟨n, ow, env, _, E, s, hq, fun v t H' ow' env' y s' o r z => by
    split at z
    · rename_i m
      have := Tq.rd r
      cases this
      have l62 := line62
      exact ⟨m, rfl, by omega, by omega, k _ _ H' ow' env' y s' o (itd_rng (by omega)) z.2.2⟩
    · exact z.elim, x⟩⟩
def iRng2 (qa qb : SemE) : SemI := fun env Q E => qa env (fun t env1 => qb env1 (fun u env2 => match t, u with
  | .fz (.int i), .fz (.int j) => -(2 ^ 62) ≤ i ∧ i < 2 ^ 62 ∧ -(2 ^ 62) ≤ j ∧ j < 2 ^ 62 ∧ j - i ≤ sizeLine ∧ Q (rngD i (j - i).toNat) env2
  | _, _ => False) E) E
theorem i_rng2 (hg : Gl X "range") (hm : X.mg "range" = none) (ha : QE X W Ma a qa) (hb : QE X W Mb b qb) (hs : starEach [a, b] X.env = [(false, eval a X.env), (false, eval b X.env)] := by rfl) (hs2 : starEach [b] X.env = [(false, eval b X.env)] := by rfl) :
    QI X W (Ma ++ Mb) tg (.Call (.Name "range" p) [a, b] [] pos) (iRng2 qa qb) :=
  ⟨PI_imp (pi_range2 hg hm (pa_cons ha.run (pa_cons hb.run pa_nil (by rw [hs2]; rfl)) (by rw [hs, hs2])) hs hs2) fun σ H R ⟨n, ow, env, Q, E, s, hq, k, x⟩ => ⟨n, ow, env, _, E, s, hq, fun v t H1 ow1 env1 y1 s1 o1 r1 z1 =>
    ⟨n + 1, ow1, env1, _, E, s1, z1, fun w u H2 ow2 env2 y2 s2 o2 r2 z2 => by
      split at z2
      · rename_i i j
        have e1 := Tq.rd r1
        cases e1
        have e2 := Tq.rd r2
        cases e2
        obtain ⟨h1, h2, h3, h4, h5, z2⟩ := z2
        exact ⟨i, j, rfl, ⟨h1, h2, h3, h4⟩, k _ _ H2 ow2 env2 (y1.trans y2 subl subr (Nat.le_refl _) (Nat.le_succ _)) s2 (o1.trans o2 subl subr) (itd_rng (by omega)) z2⟩
      · exact z2.elim, x.step y1 o1 subl subr (Nat.le_refl _) (Nat.le_succ _)⟩, fun r d H' ow' env' y s' o => x r d H' ow' env' (y.mono subl (Nat.le_refl _)) s' (o.mono subl)⟩⟩
theorem i_enum {elts : List Expr} {kk : Nat} {tpos : Pos} (hg : Gl X "enumerate") (hm : X.mg "enumerate" = none) (h : QE X W M e q) (hs : starEach [e] X.env = [(false, eval e X.env)] := by rfl) : QI X W M (.Tuple elts kk tpos) (.Call (.Name "enumerate" p) [e] [] pos) (iSeq q enumD) :=
  ⟨PI_imp (pi_enum hg hm (pa_cons h.run pa_nil hs) hs) fun σ H R ⟨n, ow, env, Q, E, s, hq, k, x⟩ => ⟨n, ow, env, _, E, s, hq, fun v t H' ow' env' y s' o r z => by
    split at z
    · obtain ⟨a, vs, rfl, c, hz, r⟩ := fz_lst r
      exact ⟨a, vs, rfl, (bs_same _ _).seq c, k _ _ H' ow' env' y s' o (itd_enum c hz r) z⟩
    · exact z.elim, x⟩⟩
end

inductive ForG (g : SemG) (body : SemS) (D : EndsQ) (ds : List QV.D) (env1 : Env) : Prop
  | mk (h : ∃ I : Nat → Env → Prop, I 0 env1 ∧ (∀ j d env', ds[j]? = some d → I j env' → g d env' fun env2 => body { D with nx := I (j + 1), ct := I (j + 1), bk := D.nx } env2) ∧ ∀ env', I ds.length env' → D.nx env')
  | no (h : False)
theorem ForG.ex {g : SemG} {body : SemS} {D : EndsQ} {ds : List QV.D} {env1 : Env} : ForG g body D ds env1 → ∃ I : Nat → Env → Prop, I 0 env1 ∧ (∀ j d env', ds[j]? = some d → I j env' → g d env' fun env2 => body { D with nx := I (j + 1), ct := I (j + 1), bk := D.nx } env2) ∧ ∀ env', I ds.length env' → D.nx env'
  | .mk h => h
  | .no h => h.elim
def sFor (i : SemI) (g : SemG) (body : SemS) : SemS := fun D env => i env (fun ds env1 => ForG g body D ds env1) D.ex
inductive WhileG (t : SemT) (body : SemS) (D : EndsQ) (env : Env) : Prop
  | mk (h : ∃ I : Nat → Env → Prop, (∃ m, I m env) ∧ ∀ m env', I m env' → t env' (fun c env1 => (c = true → body { D with nx := fun e => ∃ m', m' < m ∧ I m' e, ct := fun e => ∃ m', m' < m ∧ I m' e, bk := D.nx } env1) ∧ (c = false → D.nx env1)) D.ex)
  | no (h : False)
theorem WhileG.ex {t : SemT} {body : SemS} {D : EndsQ} {env : Env} : WhileG t body D env → ∃ I : Nat → Env → Prop, (∃ m, I m env) ∧ ∀ m env', I m env' → t env' (fun c env1 => (c = true → body { D with nx := fun e => ∃ m', m' < m ∧ I m' e, ct := fun e => ∃ m', m' < m ∧ I m' e, bk := D.nx } env1) ∧ (c = false → D.nx env1)) D.ex
  | .mk h => h
  | .no h => h.elim
def putE (env : Env) : List Nat → List (Option T) → Env
  | i :: is, v :: vs => putE (env.set i v) is vs
  | _, _ => env
theorem ForG.fr {g : SemG} {body : SemS} {D : EndsQ} {ds : List QV.D} {env : Env} (ms : List Nat) (I : Nat → List (Option T) → Prop) (h0 : ∃ vs, env = putE env ms vs ∧ I 0 vs)
    (hs : ∀ j d vs, ds[j]? = some d → I j vs → g d (putE env ms vs) fun env2 => body { D with nx := fun e => ∃ us, e = putE env ms us ∧ I (j + 1) us, ct := fun e => ∃ us, e = putE env ms us ∧ I (j + 1) us, bk := D.nx } env2) (he : ∀ vs, I ds.length vs → D.nx (putE env ms vs)) : ForG g body D ds env :=
  .mk ⟨fun j e => ∃ vs, e = putE env ms vs ∧ I j vs, h0, fun j d env' hd ⟨vs, e, i⟩ => by subst e; exact hs j d vs hd i, fun env' ⟨vs, e, i⟩ => by subst e; exact he vs i⟩
theorem WhileG.fr {t : SemT} {body : SemS} {D : EndsQ} {env : Env} (ms : List Nat) (I : Nat → List (Option T) → Prop) (h0 : ∃ m vs, env = putE env ms vs ∧ I m vs)
    (hs : ∀ m vs, I m vs → t (putE env ms vs) (fun c env1 => (c = true → body { D with nx := fun e => ∃ m', m' < m ∧ ∃ us, e = putE env ms us ∧ I m' us, ct := fun e => ∃ m', m' < m ∧ ∃ us, e = putE env ms us ∧ I m' us, bk := D.nx } env1) ∧ (c = false → D.nx env1)) D.ex) : WhileG t body D env :=
  .mk ⟨fun m e => ∃ vs, e = putE env ms vs ∧ I m vs, h0, fun m env' ⟨vs, e, i⟩ => by subst e; exact hs m vs i⟩
theorem CutG.fr {q : SemS} {D : EndsQ} {env : Env} (ms : List Nat) (R : List (Option T) → Prop) (h : q { D with nx := fun e => ∃ us, e = putE env ms us ∧ R us } env) (he : ∀ vs, R vs → D.nx (putE env ms vs)) : CutG q D env :=
  .mk ⟨fun e => ∃ us, e = putE env ms us ∧ R us, h, fun env' ⟨vs, e, i⟩ => by subst e; exact he vs i⟩
section
variable {X : Cx} {W : WX} {M IO SS : List Nat} {iter tg c : Expr} {body : List Stmt} {i : SemI} {g : SemG} {b : SemS} {tc : SemT} {pos : Pos}
theorem s_for (hp : PassesOwn (model X.prog X.w) X.A X.env X.xe) (hc : X.calm = true) (hi : QI X W M tg iter i) (hg : QG X SS tg g) (hb : QSs X W IO body b) (hio : ∀ i ∈ IO, i ∉ SS := by decide) (hs : ∀ x, foldedSetIterable iter X.env x = pure x := by intro _; rfl) : QS X W IO (.For tg iter body [] pos) (sFor i g b) :=
  ⟨PS_imp (ps_for hp hc hi.run hg.run hb.run hs) fun D σ H ⟨ow, env, De, s, hq, k⟩ => ⟨0, ow, env, _, De.ex, s, hq, fun J ds H1 ow1 env1 y1 s1 _ J1 hF => by
    obtain ⟨I, i0, it, ie⟩ := hF.ex
    refine ⟨fun j m σ' H' => m = ds.length - j ∧ j ≤ ds.length ∧ ∃ ow' env', Fs H1 ow1 H' ow' ∧ Ios IO σ σ' ∧ StOk X.K H' ow' σ' env' ∧ I j env', ⟨ds.length, by simp, Nat.zero_le _, ow1, env1, Fs.refl, Ios.refl, s1, i0⟩, ?_⟩
    rintro j m σ' H' ⟨rfl, hj, ow', env', fs, io, s', ij⟩
    by_cases hlt : j < ds.length
    · have hd : ds[j]? = some ds[j] := by simp [hlt]
      refine .inr ⟨J1.go j _ H' ow' fs hd, fun σ2 H2 => ∃ ow2 env2, Fs H1 ow1 H2 ow2 ∧ Ios IO σ σ2 ∧ StOk X.K H2 ow2 σ2 env2 ∧ I (j + 1) env2, fun σ2 H2 ⟨ow2, env2, q⟩ => ⟨ds.length - (j + 1), by omega, rfl, hlt, ow2, env2, q⟩, fun x H2 yl => ?_⟩
      obtain ⟨ow2, ex, rx⟩ := J1.yld j _ H' ow' x H2 fs hd yl
      have y2 : Stp [] 0 H' ow' H2 ow2 := ex.stp
      refine ⟨ow2, env', _, _, s'.stp0 y2, rx, it j _ env' hd ij, fun σ3 env3 tc3 _ s3 z3 => ?_⟩
      have io3 := tc3.ios hio
      have fs2 := fs.trans y2.fs
      refine ⟨ow2, env3, _, s3, z3, ⟨fun σ4 H4 ow4 env4 f4 i4 s4 z4 => ⟨ow4, env4, fs2.trans f4, (io.trans io3).trans i4, s4, z4⟩, (k.rt.step (y1.fs.trans fs2) (io.trans io3)), (k.nx.step (y1.fs.trans fs2) (io.trans io3)), fun σ4 H4 ow4 env4 f4 i4 s4 z4 => ⟨ow4, env4, fs2.trans f4, (io.trans io3).trans i4, s4, z4⟩, k.ex.step (y1.fs.trans fs2) (io.trans io3)⟩⟩
    · have e : j = ds.length := by omega
      subst e
      exact .inl ⟨J1.stop H' ow' fs, k.nx σ' H' ow' env' (y1.fs.trans fs) io s' (ie env' ij)⟩, k.ex.xk⟩⟩
end
end QV

set_option Elab.async false
set_option linter.all false
set_option maxRecDepth 100000
set_option maxHeartbeats 2000000
namespace QV
open PySem PySem.Spec PyProof.Rows L2

structure FnG (P : Program) (w : World) (K : PySem.W.Frag) (mg : Str → Option Value) (base : Heap) (k : Nat) (f : Addr) (fd : FuncData) (ps : List Str) (sp : Sp) : Prop where
  len : ∀ vs H Q E, sp vs H Q E → vs.length = ps.length
  run : ∀ (A : Around) (outer : List PySem.Env) (s : Shared) (H : Hp) (args : Args) (us : List Value) (vs : List V) (Q : VK) (E : XK), Room k A → A.guards = some [] → Env0 P w K mg base A outer s H → BindsTo s fd args (ps.zip us) → Vals vs us → sp vs H Q E →
    codeAny (model P w) A (.call (.ref f) args) (CR (L2.CX P w) outer P w H s Q E) s
section
variable {P : Program} {w : World} {K : PySem.W.Frag} {mg : Str → Option Value} {base : Heap}
theorem fnG_of {k : Nat} {x qual : Str} {st : Stmt} {f : Addr} {fd : FuncData} {N ps : List Str} {sp : Sp} (F : Fun K x qual st f fd) (S : FnScope N ps (defScope st)) (len : ∀ vs H Q E, sp vs H Q E → vs.length = ps.length)
    (hb : ∀ (cdv : Value) (A : Around) (outer : List PySem.Env) (s : Shared) (H : Hp) (vs : List V) (Q : VK) (E : XK), Room k (A.deeper (envOfC qual (defScope st) s.heap.objs.size f cdv)) → A.guards = some [] → sp vs H Q E →
      ∃ t, PSs (cxOf (L2.CX P w) P w K mg base N qual (defScope st) f cdv A outer s H E) (defBody st) t ∧ t { nx := fun _ H' => Q .non H', rt := Q } (L2.start N vs) H) : FnG P w K mg base (k + 1) f fd ps sp := by
  obtain ⟨oc, od, kV, doc, pm, an, cdv, ct, osl, rfl, lk, hcd⟩ := F.ex
  constructor
  · exact len
  · intro A outer s H args us vs Q E hr hG e0 hbind rv hsp
    have hlen := len _ _ _ _ hsp
    have kin : K.In s.heap := e0.mod.kin.keeps fun b o e => (e0.bs b o e).1
    have nl : s.heap.NoLimit := e0.mod.nolimit.keeps fun b o e => (e0.bs b o e).1
    have kinds : ∀ y ∈ ps.zip us, (defScope st).names.lookup y.1 = some .local ∨ ((defScope st).names.lookup y.1 = some .cell ∧ ((cellsFrom (s.heap.objs.size + 1) (defScope st).names []).lookup y.1).isSome = true) := by
      rintro ⟨m, u⟩ hy
      rcases S.par m (List.of_mem_zip hy).1 with q | q
      · exact .inl q
      · exact .inr ⟨q, PySem.W.cellsFrom_some _ _ _ (.inl q)⟩
    apply codeAny_call_function hr.depth (kin _ _ lk) rfl S.co S.gen rfl (PySem.W.codeRec_of kin hcd) (hbind _ _ _ _ _)
    refine wpAny_newFunctionEnv_cells S.kind kinds ?_
    rintro env rfl s1 ic
    refine ⟨nl.keeps ic.toInCall.keep, codeAny_func ?_⟩
    obtain ⟨t, ht, q⟩ := hb cdv A outer s H vs Q E (hr.deeper _) hG hsp
    have I0 : Inv (cxOf (L2.CX P w) P w K mg base N qual (defScope st) f cdv A outer s H E) [] (L2.start N vs) H s1 := inv_start S hr.hd e0 hlen rv ic
    refine wpAny_mono (ht.run [] s1 (L2.start N vs) H _ I0 q) ?_ fun _ _ z => z
    intro fl s' z
    cases fl with
    | ret u =>
      obtain ⟨v, σ', H', J, r, qq⟩ := z
      exact ⟨v, H', J.os, J.bare, J.base, J.hok, r, qq⟩
    | next =>
      obtain ⟨σ', H', J, qq⟩ := z
      exact ⟨.non, H', J.os, J.bare, J.base, J.hok, rfl, qq⟩
    | brk =>
      obtain ⟨_, _, _, qq⟩ := z
      exact qq.elim
    | cont =>
      obtain ⟨_, _, _, qq⟩ := z
      exact qq.elim
theorem FnG.mono {j k : Nat} {f : Addr} {fd : FuncData} {ps : List Str} {sp : Sp} (F : FnG P w K mg base j f fd ps sp) (h : j ≤ k) : FnG P w K mg base k f fd ps sp := ⟨F.len, fun A outer s H args us vs Q E hr => F.run A outer s H args us vs Q E (hr.mono h)⟩
theorem FnG.imp {k : Nat} {f : Addr} {fd : FuncData} {ps : List Str} {sp sp' : Sp} (F : FnG P w K mg base k f fd ps sp) (h : ∀ vs H Q E, sp' vs H Q E → sp vs H Q E) : FnG P w K mg base k f fd ps sp' :=
  ⟨fun vs H Q E q => F.len vs H Q E (h _ _ _ _ q), fun A outer s H args us vs Q E hr hg he hb hv hs => F.run A outer s H args us vs Q E hr hg he hb hv (h _ _ _ _ hs)⟩
end
section
variable {X : Cx} {W : WX} {k : Nat} {f C : Addr} {fd : FuncData} {ps : List Str} {sp : Sp} {x m : Str} {p pos apos : Pos} {e o : Expr} {es : List Expr} {ta : TE} {t : TA}
theorem runG {pins : List (Addr × Obj)} {σ : L2.St} {H : Hp} {s : Shared} {Q : VK} {us : List Value} {vs : List V} (F : FnG X.prog X.w X.K X.mg X.base k f fd ps sp) (hr : Room k X.A) (hG : X.A.guards = some []) (hb : Binds X.K fd ps []) (tk : L2.Takes X W)
    (I : Inv X pins σ H s) (r : Vals vs us) (h : sp vs H Q fun cls d H' => W cls d σ H') : wpAny (model X.prog X.w) X.A (call (.ref f) us) (EP X pins σ Q) X.xe s := by
  have hl : (us ++ []).length = ps.length := by rw [List.append_nil, ← r.length]; exact F.len _ _ _ _ h
  have hb2 : BindsTo s fd ⟨us, []⟩ (ps.zip us) := by have := hb s us I.kIn hl; rwa [List.append_nil] at this
  apply wpAny_call
  refine codeAny_mono (F.run X.A X.stack s H ⟨us, []⟩ us vs Q _ hr hG I.env0 hb2 r h) ?_
  intro res s' z
  cases res with
  | error ex => exact tk _ _ (XE.of_call I (fun _ _ _ q => q) z)
  | ok fl =>
    cases fl with
    | ret u => exact I.after z
    | next => exact z.elim
    | brk => exact z.elim
    | cont => exact z.elim
theorem pe_callG (F : FnG X.prog X.w X.K X.mg X.base k f fd ps sp) (hr : Room k X.A) (hG : X.A.guards = some []) (hg : Gl X x) (hm : X.mg x = some (.ref f)) (hk : PySem.W.keepIn X.K (.ref f) = true) (hb : Binds X.K fd ps []) (tk : L2.Takes X W)
    (ha : PA X (e :: es) t) (hdb : (x == ("__debug__" : Str)) = false := by decide) (he : starEach (e :: es) X.env = (false, eval e X.env) :: starEach es X.env := by rfl) (hpl : (backTo pos (starEach es X.env)).any (·.1) = false := by rfl) :
    PE X (.Call (.Name x p) (e :: es) [] pos) (fun σ H Q => t σ H fun vs H1 => sp vs H1 Q fun cls d H' => W cls d σ H') := by
  constructor
  intro pins s σ H Q I h
  apply wpAny_Call_Name_kw
  refine ld_glob I hg hm ?_ hdb
  refine PySem.W.callWith_K (h₀ := X.base) I.ok.mod.kin hk ?_ he hpl
  refine thn (ha.run pos pins s σ H _ I h) ?_
  rintro us s1 ⟨vs, H1, I1, r, q⟩
  exact ⟨I1.kIn, runG F hr hG hb tk I1 r q⟩
end

abbrev SemF := List T → (T → List T → Prop) → (Rz → List T → Prop) → Prop
def spQ (K : PySem.W.Frag) (n : Nat) (io : List Nat) (spec : SemF) : Sp := fun vs H Qv E => vs.length = n ∧ ∃ (ow : Ow) (args : List T) (Q : T → List T → Prop) (EE : Rz → List T → Prop),
  args.length = n ∧ (∀ (i : Nat) (t : T), args[i]? = some t → ∃ v, vs[i]? = some v ∧ Tq K H ow (.sl i) v t) ∧ spec args Q EE ∧
  (∀ (v : V) (t : T) (H' : Hp) (ow' : Ow) (outs : List T), Fs H ow H' ow' → Tq K H' ow' (.tm 0) v t → outs.length = io.length → (∀ (j i : Nat) (u : T), io[j]? = some i → outs[j]? = some u → ∃ v, vs[i]? = some v ∧ Tq K H' ow' (.sl i) v u) → Q t outs → Qv v H') ∧
  (∀ (r : Rz) (d : Option Addr) (H' : Hp) (ow' : Ow) (outs : List T), Fs H ow H' ow' → Rzp K H' ow' d r → outs.length = io.length → (∀ (j i : Nat) (u : T), io[j]? = some i → outs[j]? = some u → ∃ v, vs[i]? = some v ∧ Tq K H' ow' (.sl i) v u) → EE r outs → E (.ref r.C) d H')
def outsOf : List Nat → Env → Option (List T)
  | [], _ => some []
  | i :: is, env => match env[i]? with
    | some (some t) => match outsOf is env with
      | some ts => some (t :: ts)
      | none => none
    | _ => none
theorem outs_get : ∀ {io : List Nat} {env : Env} {ts : List T}, outsOf io env = some ts → ts.length = io.length ∧ ∀ (j i : Nat) (u : T), io[j]? = some i → ts[j]? = some u → env[i]? = some (some u)
  | [], env, ts, h => by cases h; exact ⟨rfl, fun j i u e => by simp at e⟩
  | i :: is, env, ts, h => by
    unfold outsOf at h
    split at h
    · rename_i t e
      split at h
      · rename_i us e2
        cases h
        obtain ⟨h1, h2⟩ := outs_get e2
        refine ⟨by rw [List.length_cons, List.length_cons, h1], fun j i' u ej eu => ?_⟩
        cases j with
        | zero => simp at ej eu; subst ej eu; exact e
        | succ j => exact h2 j i' u (by simpa using ej) (by simpa using eu)
      · cases h
    · cases h
def EndsF (io : List Nat) (Q : T → List T → Prop) (EE : Rz → List T → Prop) : EndsQ where
  nx := fun env => match outsOf io env with
    | some ts => Q (.fz .non) ts
    | none => False
  rt := fun t env => match outsOf io env with
    | some ts => Q t ts
    | none => False
  bk := fun _ => False
  ct := fun _ => False
  ex := fun r env => match outsOf io env with
    | some ts => EE r ts
    | none => False
def env0 (N : Nat) (args : List T) : Env := args.map some ++ List.replicate (N - args.length) none
def QFn (P : Program) (w : World) (K : PySem.W.Frag) (mg : Str → Option Value) (base : Heap) (k : Nat) (f : Addr) (fd : FuncData) (ps : List Str) (io : List Nat) (spec : SemF) : Prop := FnG P w K mg base k f fd ps (spQ K ps.length io spec)
section
variable {P : Program} {w : World} {K : PySem.W.Frag} {mg : Str → Option Value} {base : Heap}
theorem QFn.mono {j k : Nat} {f : Addr} {fd : FuncData} {ps : List Str} {io : List Nat} {spec : SemF} (F : QFn P w K mg base j f fd ps io spec) (h : j ≤ k) : QFn P w K mg base k f fd ps io spec := FnG.mono F h
theorem QFn.imp {k : Nat} {f : Addr} {fd : FuncData} {ps : List Str} {io : List Nat} {spec spec' : SemF} (F : QFn P w K mg base k f fd ps io spec) (h : ∀ a Q E, spec' a Q E → spec a Q E) : QFn P w K mg base k f fd ps io spec' :=
  FnG.imp F fun vs H Qv E ⟨hl, ow, args, Q, EE, h1, h2, h3, h4, h5⟩ => ⟨hl, ow, args, Q, EE, h1, h2, h _ _ _ h3, h4, h5⟩
theorem start_get {N : List Str} {vs : List V} {i : Nat} {v : V} (h : vs[i]? = some v) : (L2.start N vs)[i]? = some (some v) := by
  unfold L2.start
  have hi : i < vs.length := (List.getElem?_eq_some_iff.mp h).1
  rw [List.getElem?_append_left (by simpa using hi), List.getElem?_map, h]
  rfl
theorem env0_get {N : Nat} {args : List T} {i : Nat} {t : T} (h : (env0 N args)[i]? = some (some t)) : args[i]? = some t := by
  unfold env0 at h
  by_cases hi : i < args.length
  · rw [List.getElem?_append_left (by simpa using hi), List.getElem?_map] at h
    cases e : args[i]? with
    | none => rw [e] at h; cases h
    | some u => rw [e] at h; cases h; rfl
  · rw [List.getElem?_append_right (by simpa using hi), List.getElem?_replicate] at h
    split at h <;> cases h
theorem qfn_of {k : Nat} {x qual : Str} {st : Stmt} {f : Addr} {fd : FuncData} {N ps : List Str} {io : List Nat} {spec : SemF} (F : Fun K x qual st f fd) (S : FnScope N ps (defScope st)) (hio : (io.all fun i => decide (i < ps.length)) = true) (hpN : ps.length ≤ N.length)
    (hb : ∀ (cdv : Value) (A : Around) (outer : List PySem.Env) (s : Shared) (H : Hp) (E : XK) (W : WX), Room k (A.deeper (envOfC qual (defScope st) s.heap.objs.size f cdv)) → A.guards = some [] → L2.Takes (cxOf (L2.CX P w) P w K mg base N qual (defScope st) f cdv A outer s H E) W →
      PassesOwn (model P w) (A.deeper (envOfC qual (defScope st) s.heap.objs.size f cdv)) (envOfC qual (defScope st) s.heap.objs.size f cdv) (cxOf (L2.CX P w) P w K mg base N qual (defScope st) f cdv A outer s H E).xe →
      ∃ q, QSs (cxOf (L2.CX P w) P w K mg base N qual (defScope st) f cdv A outer s H E) W io (defBody st) q ∧ ∀ args Q E, args.length = ps.length → spec args Q E → q (EndsF io Q E) (env0 N.length args)) : QFn P w K mg base (k + 1) f fd ps io spec := by
  refine fnG_of F S (fun vs H Q E h => h.1) fun cdv A outer s H vs Qv E hr hG ⟨hl, ow, args, Q, EE, ha, h2, h3, h4, h5⟩ => ?_
  obtain ⟨q, hq, hs⟩ := hb cdv A outer s H E (fun cls d σ H' => E cls d H') hr hG (takes_of rfl rfl rfl rfl) (passes_of rfl)
  refine ⟨_, hq.run, ow, env0 N.length args, EndsF io Q EE, ⟨?_, fun i t e => ?_⟩, hs args Q EE ha h3, ?_⟩
  · unfold env0 L2.start
    rw [List.length_append, List.length_append, List.length_map, List.length_map, List.length_replicate, List.length_replicate, ha, hl]
  · obtain ⟨v, e1, r⟩ := h2 i t (env0_get e)
    exact ⟨v, start_get e1, r⟩
  · have outs : ∀ {σ' : L2.St} {H' : Hp} {ow' : Ow} {env' : Env} {ts : List T}, Ios io (L2.start N vs) σ' → StOk K H' ow' σ' env' → outsOf io env' = some ts → ts.length = io.length ∧ ∀ (j i : Nat) (u : T), io[j]? = some i → ts[j]? = some u → ∃ v, vs[i]? = some v ∧ Tq K H' ow' (.sl i) v u := fun {σ' H' ow' env' ts} io' s' e => by
      obtain ⟨g1, g2⟩ := outs_get e
      refine ⟨g1, fun j i u ej eu => ?_⟩
      obtain ⟨v, e1, r⟩ := s'.at_ i u (g2 j i u ej eu)
      have mi : i ∈ io := List.mem_of_getElem? ej
      rw [io' i mi] at e1
      have hi : i < vs.length := by rw [hl]; exact of_decide_eq_true (List.all_eq_true.mp hio i mi)
      have e2 : vs[i]? = some vs[i] := by simp [hi]
      rw [start_get e2] at e1
      cases e1
      exact ⟨_, e2, r⟩
    refine ⟨fun σ' H' ow' env' fs i s' z => ?_, fun v t σ' H' ow' env' fs i s' r z => ?_, fun _ _ _ _ _ _ _ z => z.elim, fun _ _ _ _ _ _ _ z => z.elim, fun r d σ' H' ow' env' fs i s' rz z => ?_⟩
    · show Qv .non H'
      simp only [EndsF] at z
      split at z
      · rename_i ts e
        obtain ⟨g1, g2⟩ := outs i s' e
        exact h4 _ _ H' ow' ts fs (Tq.fz_.mpr .non) g1 g2 z
      · exact z.elim
    · simp only [EndsF] at z
      split at z
      · rename_i ts e
        obtain ⟨g1, g2⟩ := outs i s' e
        exact h4 _ _ H' ow' ts fs r g1 g2 z
      · exact z.elim
    · simp only [EndsF] at z
      split at z
      · rename_i ts e
        obtain ⟨g1, g2⟩ := outs i s' e
        exact h5 r d H' ow' ts fs rz g1 g2 z
      · exact z.elim
end
end QV

set_option Elab.async false
set_option linter.all false
set_option maxRecDepth 100000
set_option maxHeartbeats 2000000
namespace QV
open PySem L2

abbrev SemD := Env → (List D → Env → Prop) → XQ → Prop
def tA (K : PySem.W.Frag) (W : WX) (M : List Nat) (ks : List (Option Nat)) (q : SemD) : TA := fun σ H Qv => ∃ (n : Nat) (ow : Ow) (env : Env) (Q : List D → Env → Prop) (E : XQ), StOk K H ow σ env ∧ q env Q E ∧
  (∀ (vs : List V) (ds : List D) (H' : Hp) (ow' : Ow) (env' : Env), Stp M n H ow H' ow' → StOk K H' ow' σ env' → Out M env env' → vs.length = ks.length → ds.length = ks.length →
    (∀ (j : Nat) (v : V) (d : D), vs[j]? = some v → ds[j]? = some d → (ks[j]? = some none → Rp K (Bs H' ow') v d) ∧ ∀ i, ks[j]? = some (some i) → σ[i]? = some (some v)) → Q ds env' → Qv vs H') ∧ Xk K W M σ H n ow env E
structure QA (X : Cx) (W : WX) (M : List Nat) (ks : List (Option Nat)) (es : List Expr) (q : SemD) : Prop where
  run : PA X es (tA X.K W M ks q)
def aNil : SemD := fun env Q _ => Q [] env
def aCons (q : SemE) (qs : SemD) : SemD := fun env Q E => q env (fun t env1 => match t with
  | .fz d => qs env1 (fun ds env2 => Q (d :: ds) env2) E
  | _ => False) E
def aOwn (i : Nat) (qs : SemD) : SemD := fun env Q E => match env[i]? with
  | some (some _) => qs env (fun ds env2 => Q (.non :: ds) env2) E
  | _ => False
section
variable {X : Cx} {W : WX} {M Ma Mb : List Nat} {e : Expr} {es : List Expr} {q : SemE} {qs : SemD} {ks : List (Option Nat)} {pos : Pos}
theorem a_nil : QA X W [] [] [] aNil := ⟨PA_imp pa_nil fun σ H Qv ⟨n, ow, env, Q, E, s, hq, k, x⟩ => k [] [] H ow env Stp.refl s Out.refl rfl rfl (fun j v d h => by simp at h) hq⟩
theorem a_cons (h1 : QE X W Ma e q) (h2 : QA X W Mb ks es qs) (hs : starEach (e :: es) X.env = (false, eval e X.env) :: starEach es X.env := by rfl) : QA X W (Ma ++ Mb) (none :: ks) (e :: es) (aCons q qs) :=
  ⟨PA_imp (pa_cons h1.run h2.run hs) fun σ H Qv ⟨n, ow, env, Q, E, s, hq, k, x⟩ => ⟨n, ow, env, _, E, s, hq, fun v t H1 ow1 env1 y1 s1 o1 r1 z => by
    split at z
    · refine ⟨n + 1, ow1, env1, _, E, s1, z, fun vs ds H2 ow2 env2 y2 s2 o2 l1 l2 hv z2 => ?_, x.step y1 o1 subl subr (Nat.le_refl _) (Nat.le_succ _)⟩
      refine k _ _ H2 ow2 env2 (y1.trans y2 subl subr (Nat.le_refl _) (Nat.le_succ _)) s2 (o1.trans o2 subl subr) (by rw [List.length_cons, List.length_cons, l1]) (by rw [List.length_cons, List.length_cons, l2]) (fun j v' d' ev ed => ?_) z2
      cases j with
      | zero =>
        simp at ev ed
        subst ev ed
        exact ⟨fun _ => (Tq.fz_.mp r1).mono y2.bs, fun i hi => by simp at hi⟩
      | succ j => exact hv j v' d' (by simpa using ev) (by simpa using ed)
    · exact z.elim, fun r d H' ow' env' y s' o => x r d H' ow' env' (y.mono subl (Nat.le_refl _)) s' (o.mono subl)⟩⟩
theorem a_own (i : Nat) {x : Str} {px : Pos} (h2 : QA X W Mb ks es qs) (hN : X.N[i]? = some x := by rfl) (hv : Vis X.env.scope x := by first | exact Or.inl rfl | exact Or.inr (Or.inl rfl) | exact Or.inr (Or.inr rfl)) (hd : (x == ("__debug__" : Str)) = false := by decide)
    (hcd : (x == ("__classdict__" : Str)) = false := by decide) (hs : starEach (.Name x px :: es) X.env = (false, eval (.Name x px) X.env) :: starEach es X.env := by rfl) : QA X W Mb (some i :: ks) (.Name x px :: es) (aOwn i qs) :=
  ⟨PA_imp (pa_cons (pe_var (i := i) hN hv hd hcd) h2.run hs) fun σ H Qv ⟨n, ow, env, Q, E, s, hq, k, x⟩ => by
    unfold aOwn at hq
    split at hq
    · rename_i t e
      obtain ⟨v, e1, r⟩ := s.at_ i t e
      refine ⟨v, e1, n, ow, env, _, E, s, hq, fun vs ds H2 ow2 env2 y2 s2 o2 l1 l2 hv z2 => ?_, x⟩
      refine k _ _ H2 ow2 env2 y2 s2 o2 (by rw [List.length_cons, List.length_cons, l1]) (by rw [List.length_cons, List.length_cons, l2]) (fun j v' d' ev ed => ?_) z2
      cases j with
      | zero =>
        simp at ev ed
        subst ev ed
        exact ⟨fun h => by simp at h, fun i' hi => by simp at hi; subst hi; exact e1⟩
      | succ j => exact hv j v' d' (by simpa using ev) (by simpa using ed)
    · exact hq.elim⟩
theorem rps_of {K : PySem.W.Frag} {B : Hp} : ∀ {n : Nat} {vs : List V} {ds : List D}, vs.length = n → ds.length = n → (∀ (j : Nat) (v : V) (d : D), vs[j]? = some v → ds[j]? = some d → Rp K B v d) → Rps K B vs ds
  | 0, [], [], _, _, _ => .nil
  | n + 1, v :: vs, d :: ds, h1, h2, h => .cons (h 0 v d rfl rfl) (rps_of (n := n) (by simpa using h1) (by simpa using h2) fun j v' d' e1 e2 => h (j + 1) v' d' (by simpa using e1) (by simpa using e2))
theorem tA_data {K : PySem.W.Frag} {σ : L2.St} {H : Hp} {Qv : List V → Hp → Prop} {m : Nat} {ow : Ow} {env : Env} {Q : List D → Env → Prop} {E : XQ} (hk : (ks.all fun x => x.isNone) = true) (s : StOk K H ow σ env) (hq : qs env Q E) (x : Xk K W M σ H m ow env E)
    (k : ∀ (vs : List V) (ds : List D) (H' : Hp) (ow' : Ow) (env' : Env), Stp M m H ow H' ow' → StOk K H' ow' σ env' → Out M env env' → vs.length = ks.length → Rps K (Bs H' ow') vs ds → Q ds env' → Qv vs H') : tA K W M ks qs σ H Qv :=
  ⟨m, ow, env, Q, E, s, hq, fun vs ds H' ow' env' y s' o l1 l2 hv z => k vs ds H' ow' env' y s' o l1 (rps_of l1 l2 fun j v d e1 e2 => (hv j v d e1 e2).1 (by
    have hj : j < ks.length := by have := (List.getElem?_eq_some_iff.mp e1).1; omega
    have e : ks[j]? = some ks[j] := by simp [hj]
    have hn := List.all_eq_true.mp hk ks[j] (List.getElem_mem hj)
    rw [e]
    cases e3 : ks[j] with
    | none => rfl
    | some i => rw [e3] at hn; cases hn)) z, x⟩
def sLst (qs : SemD) : SemE := fun env Q E => qs env (fun ds env1 => Q (.ow .lst ds) env1) E
def sTup (qs : SemD) : SemE := fun env Q E => qs env (fun ds env1 => Q (.fz (.nd .tup ds)) env1) E
theorem q_lst (h : QA X W M ks es qs) (hk : (ks.all fun x => x.isNone) = true := by rfl) (hz : ks.length ≤ sizeLine := by decide) : QE X W M (.List es pos) (sLst qs) :=
  ⟨PE_imp (pe_lst h.run) fun σ H Qv ⟨n, ow, env, Q, E, s, hq, k, x⟩ => tA_data hk s hq x fun vs ds H' ow' env' y s' o l1 r z => ⟨by omega, fun p hp =>
      k _ _ _ (Ow.put ow' p (.tm n)) env' (y.trans (Stp.new hp) (fun _ h => h) nilsub (Nat.le_refl _) (Nat.le_refl _)) (s'.stp0 (n := 0) (Stp.new hp)) o (Tq.newL hp (by omega) r) z⟩⟩
theorem q_tup {x1} (h : QA X W M ks es qs) (hk : (ks.all fun x => x.isNone) = true := by rfl) (hz : ks.length ≤ sizeLine := by decide) : QE X W M (.Tuple es x1 pos) (sTup qs) :=
  ⟨PE_imp (pe_tup h.run) fun σ H Qv ⟨n, ow, env, Q, E, s, hq, k, x⟩ => tA_data hk s hq x fun vs ds H' ow' env' y s' o l1 r z => ⟨by omega, fun p hp =>
    k _ _ _ (Ow.put ow' p .base) env' (y.trans (Stp.new hp) (fun _ h => h) nilsub (Nat.le_refl _) (Nat.le_refl _)) (s'.stp0 (n := 0) (Stp.new hp)) o
      (Tq.fz_.mpr (.tup (by rw [bs_of put_same, upd_same]) (by omega) (r.mono (Stp.bs (M := []) (n := 0) (Stp.new hp))))) z⟩⟩
def OpL (K : PySem.W.Frag) (r : List V → Hp → VK → Prop) (g : List D → (T → Prop) → Prop) : Prop := ∀ (H : Hp) (ow : Ow) (n : Nat) (vs : List V) (ds : List D) (Q : T → Prop) (Qv : VK), Rps K (Bs H ow) vs ds → g ds Q →
  (∀ v w H' ow', Stp [] n H ow H' ow' → Tq K H' ow' (.tm n) v w → Q w → Qv v H') → r vs H Qv
def sB (qs : SemD) (g : List D → (T → Prop) → Prop) : SemE := fun env Q E => qs env (fun ds env1 => g ds fun w => Q w env1) E
theorem opl_run {K : PySem.W.Frag} {r : List V → Hp → VK → Prop} {g : List D → (T → Prop) → Prop} (hg : OpL K r g) (hk : (ks.all fun x => x.isNone) = true) {σ : L2.St} {H : Hp} {Qv : VK} (h : tQ K W M (sB qs g) σ H Qv) : tA K W M ks qs σ H fun vs H1 => r vs H1 Qv := by
  obtain ⟨n, ow, env, Q, E, s, hq, k, x⟩ := h
  exact tA_data hk s hq x fun vs ds H' ow' env' y s' o l1 rr z => hg H' ow' n vs ds _ Qv rr z fun v w H2 ow2 y2 r2 z2 => k v w H2 ow2 env' (y.trans y2 (fun _ h => h) nilsub (Nat.le_refl _) (Nat.le_refl _)) (s'.stp0 y2) o r2 z2
variable {id T' : String} {r : List V → Hp → VK → Prop} {x : Str} {p : Pos} {pa : SemP} {root : Option Nat}
theorem q_bl_ {g : List D → (T → Prop) → Prop} (hc : CallR X (.builtin id) r) (hr : OpL X.K r g) (hg : Gl X x) (hm : X.mg x = none) (hv : bootBuiltins x = some (.builtin id)) (ha : QA X W M ks (e :: es) qs) (hk : (ks.all fun x => x.isNone) = true := by rfl) (hn : x ≠ "__name__" := by decide) (hdb : (x == ("__debug__" : Str)) = false := by decide)
    (he : starEach (e :: es) X.env = (false, eval e X.env) :: starEach es X.env := by rfl) (hpl : (backTo pos (starEach es X.env)).any (·.1) = false := by rfl) : QE X W M (.Call (.Name x p) (e :: es) [] pos) (sB qs g) :=
  ⟨PE_imp (pe_callB hc hg hm hv ha.run hn hdb he hpl) fun _ _ _ h => opl_run hr hk h⟩
theorem op1_run {K : PySem.W.Frag} {g : T → (T → Prop) → Prop} (hr : Op1 K (fun x H Q => r [x] H Q) g) {σ : L2.St} {H : Hp} {Qv : VK} (h : tQ K W M (s1 pa g) σ H Qv) : tCB r (tCons (tP K W M root pa) tNil) σ H Qv := by
  obtain ⟨n, ow, env, Q, E, s, hq, k, x⟩ := h
  exact ⟨n, ow, env, _, E, s, hq, fun v t pt H' ow' env' y1 s' o r q => hr H' ow' n v t _ Qv (r.ro s') q fun v' w H2 ow2 y2 r3 q3 => k v' w H2 ow2 env' (y1.trans y2 (fun _ h => h) nilsub (Nat.le_refl _) (Nat.le_refl _)) (s'.stp0 y2) o r3 q3, x⟩
theorem q_b1 {g : T → (T → Prop) → Prop} (hc : CallR X (.builtin id) r) (hr : Op1 X.K (fun x H Q => r [x] H Q) g) (hg : Gl X x) (hm : X.mg x = none) (hv : bootBuiltins x = some (.builtin id)) (ha : QP X W M root e pa) (hn : x ≠ "__name__" := by decide) (hdb : (x == ("__debug__" : Str)) = false := by decide)
    (he : starEach [e] X.env = (false, eval e X.env) :: starEach [] X.env := by rfl) (hpl : (backTo pos (starEach [] X.env)).any (·.1) = false := by rfl) : QE X W M (.Call (.Name x p) [e] [] pos) (s1 pa g) :=
  ⟨PE_imp (pe_callB hc hg hm hv (pa_cons ha.run pa_nil he) hn hdb he hpl) fun _ _ _ h => op1_run hr h⟩
theorem q_ty1 {g : T → (T → Prop) → Prop} (hc : CallR X (.type T') r) (hr : Op1 X.K (fun x H Q => r [x] H Q) g) (hg : Gl X x) (hm : X.mg x = none) (hv : bootBuiltins x = some (.type T')) (ha : QP X W M root e pa) (hn : x ≠ "__name__" := by decide) (hdb : (x == ("__debug__" : Str)) = false := by decide)
    (he : starEach [e] X.env = (false, eval e X.env) :: starEach [] X.env := by rfl) (hpl : (backTo pos (starEach [] X.env)).any (·.1) = false := by rfl) : QE X W M (.Call (.Name x p) [e] [] pos) (s1 pa g) :=
  ⟨PE_imp (pe_callTy hc hg hm hv (pa_cons ha.run pa_nil he) hn hdb he hpl) fun _ _ _ h => op1_run hr h⟩
end

def lenG (t : T) (Q : T → Prop) : Prop := match t with
  | .fz (.str x) => x.length ≤ sizeLine ∧ Q (.fz (.int x.length))
  | .fz (.nd .lst ds) => Q (.fz (.int ds.length))
  | .fz (.nd .tup ds) => Q (.fz (.int ds.length))
  | .ow .lst ds => Q (.fz (.int ds.length))
  | .ow .tup ds => Q (.fz (.int ds.length))
  | .nd .lst ts => Q (.fz (.int ts.length))
  | .nd .tup ts => Q (.fz (.int ts.length))
  | _ => False
section
variable {K : PySem.W.Frag} {X : Cx}
def rLenAll (K : PySem.W.Frag) : List V → Hp → VK → Prop := fun xs H Q => (∃ p ys, xs = [.ref p] ∧ (SqL K H p ys ∨ SqT K H p ys) ∧ Q (.int ys.length) H) ∨ (∃ z, xs = [.str z] ∧ z.length ≤ sizeLine ∧ Q (.int z.length) H)
theorem c_len : CallR X (.builtin "len") (rLenAll X.K) := call_len_seq.or call_len_str
theorem g_len : Op1 K (fun x H Q => rLenAll K [x] H Q) lenG := by
  intro H ow n x t Q Qv rx h k
  have fin : ∀ {a : Addr} {vs : List V} {m : Nat}, x = .ref a → (SqL K H a vs ∨ SqT K H a vs) → vs.length = m → Q (.fz (.int m)) → rLenAll K [x] H Qv := fun {a vs m} e c l q => by
    subst e l
    exact .inl ⟨a, vs, rfl, c, k _ _ H ow Stp.refl (Tq.fz_.mpr (.int _)) q⟩
  have kid : ∀ {kd : Kd} {ts : List T}, t = .nd kd ts → ∃ a dx vs, x = .ref a ∧ Cell H a dx kd vs ∧ vs.length = ts.length := fun {kd ts} e => by
    subst e
    obtain ⟨l, S, r⟩ := rx
    cases r with
    | nd c _ r => exact ⟨_, _, _, rfl, c, r.len⟩
  unfold lenG at h
  split at h
  · exact .inr ⟨_, by rw [rx.str], h.1, k _ _ H ow Stp.refl (Tq.fz_.mpr (.int _)) h.2⟩
  · obtain ⟨a, vs, e, c, _, r⟩ := rx.lst rfl
    exact fin e (.inl (.inl (.inl c))) r.len h
  · obtain ⟨a, vs, e, c, _, r⟩ := rx.tup rfl
    exact fin e (.inr c) r.len h
  · obtain ⟨a, vs, e, c, _, r⟩ := rx.lst rfl
    exact fin e (.inl (.inl (.inl c))) r.len h
  · obtain ⟨a, vs, e, c, _, r⟩ := rx.tup rfl
    exact fin e (.inr c) r.len h
  · obtain ⟨a, dx, vs, e, c, l⟩ := kid rfl
    exact fin e (.inl (.inl (.inl c.at_))) l h
  · obtain ⟨a, dx, vs, e, c, l⟩ := kid rfl
    exact fin e (.inr (.inl (.inl c.at_))) l h
  · exact h.elim
def seqT : T → Option (List D)
  | .fz (.nd .lst ds) => some ds
  | .fz (.nd .tup ds) => some ds
  | .ow .lst ds => some ds
  | .ow .tup ds => some ds
  | _ => none
theorem Ro.seq {H : Hp} {ow : Ow} {x : V} {t : T} {ds : List D} (h : Ro K H ow x t) (e : seqT t = some ds) : ∃ a vs, x = .ref a ∧ (SqL K H a vs ∨ SqT K H a vs) ∧ vs.length ≤ sizeLine ∧ Rps K (Bs H ow) vs ds := by
  unfold seqT at e
  split at e <;> first | cases e | skip
  · obtain ⟨a, vs, e, c, z, r⟩ := h.lst (ds := ds) rfl
    exact ⟨a, vs, e, .inl (.inl (.inl c)), z, r⟩
  · obtain ⟨a, vs, e, c, z, r⟩ := h.tup (ds := ds) rfl
    exact ⟨a, vs, e, .inr c, z, r⟩
  · obtain ⟨a, vs, e, c, z, r⟩ := h.lst (ds := ds) rfl
    exact ⟨a, vs, e, .inl (.inl (.inl c)), z, r⟩
  · obtain ⟨a, vs, e, c, z, r⟩ := h.tup (ds := ds) rfl
    exact ⟨a, vs, e, .inr c, z, r⟩
def listG (t : T) (Q : T → Prop) : Prop := match seqT t with
  | some ds => Q (.ow .lst ds)
  | none => False
theorem g_list : Op1 K (fun x H Q => ∃ p ys, [x] = [.ref p] ∧ (SqL K H p ys ∨ SqT K H p ys) ∧ ∀ l, H l = none → Q (.ref l) (upd H l (.lst ys))) listG := by
  intro H ow n x t Q Qv rx h k
  unfold listG at h
  split at h
  · rename_i ds e
    obtain ⟨a, vs, rfl, c, z, r⟩ := rx.seq e
    exact ⟨a, vs, rfl, c, fun p hp => k _ _ _ (Ow.put ow p (.tm n)) (Stp.new hp) (Tq.newL hp z r) h⟩
  · exact h.elim
def tupleG (t : T) (Q : T → Prop) : Prop := match t with
  | .fz (.nd .tup ds) => Q (.fz (.nd .tup ds))
  | t => match shL t with
    | some ds => Q (.fz (.nd .tup ds))
    | none => False
theorem g_tuple : Op1 K (fun x H Q => ∃ p ys, [x] = [.ref p] ∧ ((SqL K H p ys ∧ ∀ l, H l = none → Q (.ref l) (upd H l (.tup ys))) ∨ (SqT K H p ys ∧ Q (.ref p) H))) tupleG := by
  intro H ow n x t Q Qv rx h k
  unfold tupleG at h
  split at h
  · obtain ⟨a, vs, rfl, c, z, r⟩ := rx.tup rfl
    exact ⟨a, vs, rfl, .inr ⟨c, k _ _ H ow Stp.refl (by obtain ⟨l, rx⟩ := rx; exact Tq.fz_.mpr (Tq.fz_.mp rx)) h⟩⟩
  · split at h
    · rename_i ds e
      obtain ⟨a, vs, rfl, c, z, r⟩ := rx.lst e
      exact ⟨a, vs, rfl, .inl ⟨.inl (.inl c), fun p hp => k _ _ _ (Ow.put ow p .base) (Stp.new hp) (Tq.fz_.mpr (.tup (by rw [bs_of put_same, upd_same]) z (r.mono (Stp.bs (M := []) (n := 0) (Stp.new hp))))) h⟩⟩
    · exact h.elim
theorem ints_of {B : Hp} : ∀ {vs : List V} {ns : List Int}, Rps K B vs (ns.map .int) → vs = ns.map V.int
  | _, [], .nil => rfl
  | _, n :: ns, .cons r s => by
    cases r
    rw [List.map_cons, ints_of s]
theorem bls_of {B : Hp} : ∀ {vs : List V} {ns : List Bool}, Rps K B vs (ns.map .bl) → vs = ns.map V.bl
  | _, [], .nil => rfl
  | _, n :: ns, .cons r s => by
    cases r
    rw [List.map_cons, bls_of s]
theorem of_ints {B : Hp} : ∀ ns : List Int, Rps K B (ns.map V.int) (ns.map .int)
  | [] => .nil
  | n :: ns => .cons (.int n) (of_ints ns)
def sumG (t : T) (Q : T → Prop) : Prop := ∃ ns : List Int, shL t = some (ns.map .int) ∧ Q (.fz (.int ns.sum))
theorem g_sum : Op1 K (fun x H Q => rSum K [x] H Q) sumG := by
  intro H ow n x t Q Qv rx ⟨ns, e, h⟩ k
  obtain ⟨a, vs, rfl, c, z, r⟩ := rx.lst e
  have := ints_of r
  subst this
  exact ⟨a, ns, rfl, .inl (.inl c), k _ _ H ow Stp.refl (Tq.fz_.mpr (.int _)) h⟩
def allG (t : T) (Q : T → Prop) : Prop := ∃ bs : List Bool, shL t = some (bs.map .bl) ∧ Q (.fz (.bl (bs.all id)))
def anyG (t : T) (Q : T → Prop) : Prop := ∃ bs : List Bool, shL t = some (bs.map .bl) ∧ Q (.fz (.bl (bs.any id)))
theorem g_all : Op1 K (fun x H Q => rAll K [x] H Q) allG := by
  intro H ow n x t Q Qv rx ⟨ns, e, h⟩ k
  obtain ⟨a, vs, rfl, c, z, r⟩ := rx.lst e
  have := bls_of r
  subst this
  exact ⟨a, ns, rfl, .inl (.inl c), k _ _ H ow Stp.refl (Tq.fz_.mpr (.bl _)) h⟩
theorem g_any : Op1 K (fun x H Q => rAny K [x] H Q) anyG := by
  intro H ow n x t Q Qv rx ⟨ns, e, h⟩ k
  obtain ⟨a, vs, rfl, c, z, r⟩ := rx.lst e
  have := bls_of r
  subst this
  exact ⟨a, ns, rfl, .inl (.inl c), k _ _ H ow Stp.refl (Tq.fz_.mpr (.bl _)) h⟩
def absG (t : T) (Q : T → Prop) : Prop := match t with
  | .fz (.int i) => Q (.fz (.int (if i < 0 then -i else i)))
  | _ => False
theorem g_abs : Op1 K (fun x H Q => ∃ i, [x] = [V.int i] ∧ Q (.int (if i < 0 then -i else i)) H) absG := by
  intro H ow n x t Q Qv rx h k
  unfold absG at h
  split at h
  · exact ⟨_, by rw [rx.int], k _ _ H ow Stp.refl (Tq.fz_.mpr (.int _)) h⟩
  · exact h.elim
def intG1 (t : T) (Q : T → Prop) : Prop := match t with
  | .fz (.int i) => Q (.fz (.int i))
  | .fz (.bl b) => Q (.fz (.int (if b then 1 else 0)))
  | _ => False
theorem g_int1 : Op1 K (fun x H Q => (∃ i, [x] = [V.int i] ∧ Q (.int i) H) ∨ ∃ k, [x] = [V.bl k] ∧ Q (.int (if k then 1 else 0)) H) intG1 := by
  intro H ow n x t Q Qv rx h k
  unfold intG1 at h
  split at h
  · exact .inl ⟨_, by rw [rx.int], k _ _ H ow Stp.refl (Tq.fz_.mpr (.int _)) h⟩
  · exact .inr ⟨_, by rw [rx.bl], k _ _ H ow Stp.refl (Tq.fz_.mpr (.int _)) h⟩
  · exact h.elim
def min2G (ds : List D) (Q : T → Prop) : Prop := match ds with
  | [.int i, .int j] => Q (.fz (.int (min i j)))
  | _ => False
theorem g_min2 : OpL K (fun xs H Q => ∃ i j, xs = [.int i, .int j] ∧ Q (.int (if j < i then j else i)) H) min2G := by
  intro H ow n vs ds Q Qv r h k
  unfold min2G at h
  split at h
  · rename_i i j
    cases r with
    | cons r1 r => cases r with
      | cons r2 r =>
        cases r
        cases r1
        cases r2
        refine ⟨i, j, rfl, k _ _ H ow Stp.refl (Tq.fz_.mpr ?_) h⟩
        have e : (if j < i then j else i) = min i j := by split <;> omega
        rw [e]
        exact .int _
  · exact h.elim
end

def asm : List (Option Nat) → List D → Env → Option (List T)
  | [], [], _ => some []
  | none :: ks, d :: ds, env => match asm ks ds env with
    | some ts => some (.fz d :: ts)
    | none => none
  | some i :: ks, _ :: ds, env => match env[i]? with
    | some (some t) => match asm ks ds env with
      | some ts => some (t :: ts)
      | none => none
    | _ => none
  | _, _, _ => none
theorem asm_get : ∀ {ks : List (Option Nat)} {ds : List D} {env : Env} {ts : List T}, asm ks ds env = some ts → ts.length = ks.length ∧ ∀ (j : Nat) (t : T), ts[j]? = some t → (∃ d, ks[j]? = some none ∧ ds[j]? = some d ∧ t = .fz d) ∨ ∃ i, ks[j]? = some (some i) ∧ env[i]? = some (some t)
  | [], [], env, ts, h => by cases h; exact ⟨rfl, fun j t e => by simp at e⟩
  | none :: ks, d :: ds, env, ts, h => by
    simp only [asm] at h
    split at h
    · rename_i us e
      cases h
      obtain ⟨h1, h2⟩ := asm_get e
      refine ⟨by rw [List.length_cons, List.length_cons, h1], fun j t et => ?_⟩
      cases j with
      | zero => simp at et; subst et; exact .inl ⟨d, rfl, rfl, rfl⟩
      | succ j => simpa using h2 j t (by simpa using et)
    · cases h
  | some i :: ks, d :: ds, env, ts, h => by
    simp only [asm] at h
    split at h
    · rename_i u eu
      split at h
      · rename_i us e
        cases h
        obtain ⟨h1, h2⟩ := asm_get e
        refine ⟨by rw [List.length_cons, List.length_cons, h1], fun j t et => ?_⟩
        cases j with
        | zero => simp at et; subst et; exact .inr ⟨i, rfl, eu⟩
        | succ j => simpa using h2 j t (by simpa using et)
      · cases h
    · cases h
  | [], _ :: _, _, _, h => by simp [asm] at h
  | none :: _, [], _, _, h => by simp [asm] at h
  | some _ :: _, [], _, _, h => by simp [asm] at h
def putO : List Nat → List T → Env → Env
  | i :: is, t :: ts, env => putO is ts (env.set i (some t))
  | _, _, env => env
theorem putO_len : ∀ (cs : List Nat) (ts : List T) (env : Env), (putO cs ts env).length = env.length
  | [], _, _ => by simp [putO]
  | _ :: _, [], _ => by simp [putO]
  | i :: is, t :: ts, env => by simp [putO, putO_len is ts]
theorem putO_out : ∀ (cs : List Nat) (ts : List T) (env : Env) (i : Nat), i ∉ cs → (putO cs ts env)[i]? = env[i]?
  | [], _, _, _, _ => by simp [putO]
  | _ :: _, [], _, _, _ => by simp [putO]
  | c :: cs, t :: ts, env, i, h => by
    simp only [putO]
    rw [putO_out cs ts _ i fun z => h (List.mem_cons_of_mem _ z), List.getElem?_set_ne fun z => h (by rw [z]; exact List.mem_cons_self)]
theorem putO_in : ∀ (cs : List Nat) (ts : List T) (env : Env) (i : Nat) (t : T), cs.Nodup → ts.length = cs.length → i ∈ cs → (putO cs ts env)[i]? = some (some t) → ∃ j : Nat, cs[j]? = some i ∧ ts[j]? = some t
  | [], _, _, _, _, _, _, h, _ => by simp at h
  | c :: cs, [], _, _, _, _, h, _, _ => by simp at h
  | c :: cs, u :: ts, env, i, t, nd, hl, hi, h => by
    rw [List.nodup_cons] at nd
    simp only [putO] at h
    by_cases e : i ∈ cs
    · obtain ⟨j, h1, h2⟩ := putO_in cs ts _ i t nd.2 (by simpa using hl) e h
      exact ⟨j + 1, by simpa using h1, by simpa using h2⟩
    · have e1 : i = c := by rcases List.mem_cons.mp hi with z | z; exact z; exact absurd z e
      subst e1
      rw [putO_out _ _ _ _ e] at h
      by_cases hl2 : i < env.length
      · rw [List.getElem?_set_self hl2] at h
        cases h
        exact ⟨0, rfl, rfl⟩
      · rw [List.getElem?_eq_none (by simpa using hl2)] at h
        cases h
def okK (ks : List (Option Nat)) (io cs : List Nat) : Bool := decide (cs.Nodup) && decide (io.length = cs.length) && (io.zip cs).all (fun p => decide (ks[p.1]? = some (some p.2))) && (List.range ks.length).all fun j => match ks[j]? with
  | some (some i) => decide (j ∈ io) && decide (i ∈ cs)
  | _ => true
def sCall (spec : SemF) (ks : List (Option Nat)) (cs : List Nat) (qs : SemD) : SemE := fun env Q E => qs env (fun ds env1 => match asm ks ds env1 with
  | some args => spec args (fun t outs => Q t (putO cs outs env1)) (fun r outs => E r (putO cs outs env1))
  | none => False) E
def labIn (io cs : List Nat) : Lab → Lab
  | .base => .base
  | .sl i => match (cs.zip io).lookup i with
    | some p => .sl p
    | none => .fr
  | _ => .fr
def labBack (io cs : List Nat) (n : Nat) (old : Lab) : Lab → Lab
  | .fr => old
  | .base => .base
  | .sl p => match (io.zip cs).lookup p with
    | some i => .sl i
    | none => .tm n
  | .tm _ => .tm n
theorem lookup_zip {α β : Type} [BEq α] [LawfulBEq α] : ∀ {as : List α} {bs : List β} {j : Nat} {a : α} {b : β}, as.Nodup → as[j]? = some a → bs[j]? = some b → (as.zip bs).lookup a = some b
  | [], _, _, _, _, _, h, _ => by simp at h
  | _ :: _, [], _, _, _, _, _, h => by simp at h
  | x :: as, y :: bs, 0, a, b, _, h1, h2 => by
    simp at h1 h2
    subst h1 h2
    simp
  | x :: as, y :: bs, j + 1, a, b, nd, h1, h2 => by
    rw [List.nodup_cons] at nd
    have h1' : as[j]? = some a := by simpa using h1
    have ne : (a == x) = false := by
      rw [beq_eq_false_iff_ne]
      intro e
      subst e
      exact nd.1 (List.mem_of_getElem? h1')
    rw [List.zip_cons_cons, List.lookup_cons, ne]
    exact lookup_zip nd.2 h1' (by simpa using h2)
theorem lookup_zip_none {α β : Type} [BEq α] [LawfulBEq α] : ∀ {as : List α} {bs : List β} {a : α}, a ∉ as → (as.zip bs).lookup a = none
  | [], _, _, _ => by simp
  | _ :: _, [], _, _ => by simp
  | x :: as, y :: bs, a, h => by
    have ne : (a == x) = false := by
      rw [beq_eq_false_iff_ne]
      intro e
      exact h (by rw [e]; exact List.mem_cons_self)
    rw [List.zip_cons_cons, List.lookup_cons, ne]
    exact lookup_zip_none fun z => h (List.mem_cons_of_mem _ z)
section
variable {X : Cx} {W : WX} {M : List Nat} {k : Nat} {f : Addr} {fd : FuncData} {ps : List Str} {io cs : List Nat} {spec : SemF} {ks : List (Option Nat)} {e : Expr} {es : List Expr} {qs : SemD} {x : Str} {p pos : Pos}
theorem call_run {K : PySem.W.Frag} {n0 : Nat} (hio : io.Nodup) (hk : okK ks io cs = true) (hn : ks.length = n0) {σ : L2.St} {H1 : Hp} {Qv : VK} {m : Nat} {ow1 : Ow} {env1 : Env} {Q : T → Env → Prop} {E : XQ} {vs : List V} {ds : List D} {args : List T} (s1 : StOk K H1 ow1 σ env1) (l1 : vs.length = ks.length)
    (hv : ∀ (j : Nat) (v : V) (d : D), vs[j]? = some v → ds[j]? = some d → (ks[j]? = some none → Rp K (Bs H1 ow1) v d) ∧ ∀ i, ks[j]? = some (some i) → σ[i]? = some (some v))
    (l2 : ds.length = ks.length) (ha : asm ks ds env1 = some args) (hs : spec args (fun t outs => Q t (putO cs outs env1)) (fun r outs => E r (putO cs outs env1)))
    (kk : ∀ v t H' ow' env', Stp cs m H1 ow1 H' ow' → StOk K H' ow' σ env' → Out cs env1 env' → Tq K H' ow' (.tm m) v t → Q t env' → Qv v H') (xx : Xk K W cs σ H1 m ow1 env1 E) : spQ K n0 io spec vs H1 Qv (fun cls d H' => W cls d σ H') := by
  unfold okK at hk
  simp only [Bool.and_eq_true, decide_eq_true_eq] at hk
  obtain ⟨⟨⟨nd, len⟩, hz⟩, hall⟩ := hk
  obtain ⟨a1, a2⟩ := asm_get ha
  have slot : ∀ {i p : Nat} {j : Nat}, cs[j]? = some i → io[j]? = some p → labIn io cs (.sl i) = .sl p := fun {i p j} e1 e2 => by
    simp only [labIn]
    rw [lookup_zip nd e1 e2]
  have back : ∀ {i p j : Nat} {old : Lab}, cs[j]? = some i → io[j]? = some p → labBack io cs m old (.sl p) = .sl i := fun {i p j old} e1 e2 => by
    simp only [labBack]
    rw [lookup_zip hio e2 e1]
  have kz : ∀ {j i p : Nat}, cs[j]? = some i → io[j]? = some p → ks[p]? = some (some i) := fun {j i p} e1 e2 => by
    have hm : (p, i) ∈ io.zip cs := List.mem_of_getElem? (i := j) (by rw [List.getElem?_zip_eq_some]; exact ⟨e2, e1⟩)
    exact of_decide_eq_true (List.all_eq_true.mp hz _ hm)
  have bsIn : Same (Bs H1 ow1) (Bs H1 fun a => labIn io cs (ow1 a)) := bs_lab fun a e1 => by
    show labIn io cs (ow1 a) = .base
    rw [e1]; rfl
  -- what is behind the call
  have after : ∀ {H2 : Hp} {owc : Ow}, Fs H1 (fun a => labIn io cs (ow1 a)) H2 owc → Stp cs m H1 ow1 H2 (fun a => labBack io cs m (ow1 a) (owc a)) ∧ Same (Bs H2 owc) (Bs H2 fun a => labBack io cs m (ow1 a) (owc a)) := fun {H2 owc} fs => by
    refine ⟨⟨fun a o e q => ?_, fs.tp⟩, bs_lab fun a e1 => ?_⟩
    · have key : (labIn io cs (ow1 a) = .fr ∨ labIn io cs (ow1 a) = .base) ∧ labBack io cs m (ow1 a) (labIn io cs (ow1 a)) = ow1 a := by
        cases eo : ow1 a with
        | fr => exact ⟨.inl rfl, rfl⟩
        | base => exact ⟨.inr rfl, rfl⟩
        | tm k => exact ⟨.inl rfl, rfl⟩
        | sl i =>
          rw [eo] at q
          have hi : i ∉ cs := q
          have : labIn io cs (.sl i) = .fr := by simp only [labIn]; rw [lookup_zip_none hi]
          rw [this]
          exact ⟨.inl rfl, rfl⟩
      obtain ⟨e1, e2⟩ := fs a o e key.1
      refine ⟨e1, ?_⟩
      show labBack io cs m (ow1 a) (owc a) = ow1 a
      rw [e2]
      exact key.2
    · show labBack io cs m (ow1 a) (owc a) = .base
      rw [e1]; rfl
  have state : ∀ {H2 : Hp} {owc : Ow} {outs : List T}, Fs H1 (fun a => labIn io cs (ow1 a)) H2 owc → outs.length = io.length → (∀ (j i : Nat) (u : T), io[j]? = some i → outs[j]? = some u → ∃ v, vs[i]? = some v ∧ Tq K H2 owc (.sl i) v u) →
      StOk K H2 (fun a => labBack io cs m (ow1 a) (owc a)) σ (putO cs outs env1) ∧ Out cs env1 (putO cs outs env1) := fun {H2 owc outs} fs lo ho => by
    obtain ⟨y, bsB⟩ := after fs
    have out : Out cs env1 (putO cs outs env1) := ⟨putO_len _ _ _, fun i hi => putO_out _ _ _ _ hi⟩
    refine ⟨s1.stp y out fun i t hi e => ?_, out⟩
    obtain ⟨j, ej, et⟩ := putO_in cs outs env1 i t nd (lo.trans len) hi e
    have hj : j < io.length := by have := (List.getElem?_eq_some_iff.mp et).1; omega
    have ep : io[j]? = some io[j] := by simp [hj]
    obtain ⟨v, ev, r⟩ := ho j io[j] t ep et
    have kp := kz ej ep
    have hp : io[j] < ds.length := by have := (List.getElem?_eq_some_iff.mp ev).1; omega
    refine ⟨v, (hv io[j] v ds[io[j]] ev (by simp [hp])).2 i kp, Car.tq ⟨bsB, fun a o _ eo => ⟨by assumption, ?_⟩⟩ r⟩
    show labBack io cs m (ow1 a) (owc a) = .sl i
    rw [eo]
    exact back ej ep
  refine ⟨by omega, fun a => labIn io cs (ow1 a), args, _, _, by omega, fun j t et => ?_, hs, fun v t H2 owc outs fs r lo ho z => ?_, fun r d H2 owc outs fs rz lo ho z => ?_⟩
  · have hj : j < vs.length := by have := (List.getElem?_eq_some_iff.mp et).1; omega
    have ev : vs[j]? = some vs[j] := by simp [hj]
    refine ⟨vs[j], ev, ?_⟩
    have hjd : j < ds.length := by omega
    have ed : ds[j]? = some ds[j] := by simp [hjd]
    rcases a2 j t et with ⟨d, ek, ed', rfl⟩ | ⟨i, ek, ee⟩
    · exact Tq.fz_.mpr (((hv j _ d ev ed').1 ek).mono bsIn)
    · have e1 := (hv j _ _ ev ed).2 i ek
      obtain ⟨w, e2, r⟩ := s1.at_ i t ee
      rw [e1] at e2
      cases e2
      have hall' := List.all_eq_true.mp hall j (List.mem_range.mpr (by omega))
      rw [ek] at hall'
      simp only [Bool.and_eq_true, decide_eq_true_eq] at hall'
      -- the place of i among cs is that of j among io
      obtain ⟨c, hc⟩ := List.getElem?_of_mem hall'.1
      have hcs : c < cs.length := by have := (List.getElem?_eq_some_iff.mp hc).1; omega
      have ec : cs[c]? = some cs[c] := by simp [hcs]
      have kp := kz ec hc
      rw [ek] at kp
      have ei : i = cs[c] := Option.some.inj (Option.some.inj kp)
      exact Car.tq ⟨bsIn, fun a o h eo => ⟨h, by
        show labIn io cs (ow1 a) = .sl j
        rw [eo, ei]
        exact slot ec hc⟩⟩ r
  · obtain ⟨y, bsB⟩ := after fs
    obtain ⟨s2, o2⟩ := state fs lo ho
    exact kk v t H2 _ _ y s2 o2 (Car.tq ⟨bsB, fun a o h eo => ⟨h, by
      show labBack io cs m (ow1 a) (owc a) = .tm m
      rw [eo]
      rfl⟩⟩ r) z
  · obtain ⟨y, bsB⟩ := after fs
    obtain ⟨s2, o2⟩ := state fs lo ho
    refine xx r d H2 _ _ y s2 o2 ?_ z
    cases d with
    | none => exact rz
    | some d =>
      obtain ⟨ws, e1, e2, e3⟩ := rz
      exact ⟨ws, bsB _ _ e1, e2, e3.mono bsB⟩
theorem q_call (F : QFn X.prog X.w X.K X.mg X.base k f fd ps io spec) (tk : L2.Takes X W) (hr : Room k X.A) (hG : X.A.guards = some []) (hg : Gl X x) (hm : X.mg x = some (.ref f)) (hk : PySem.W.keepIn X.K (.ref f) = true) (hb : Binds X.K fd ps [])
    (ha : QA X W M ks (e :: es) qs) (cs : List Nat) (hio : io.Nodup := by decide) (hK : okK ks io cs = true := by decide) (hn : ks.length = ps.length := by rfl) (hdb : (x == ("__debug__" : Str)) = false := by decide) (he : starEach (e :: es) X.env = (false, eval e X.env) :: starEach es X.env := by rfl)
    (hpl : (backTo pos (starEach es X.env)).any (·.1) = false := by rfl) : QE X W (M ++ cs) (.Call (.Name x p) (e :: es) [] pos) (sCall spec ks cs qs) :=
  ⟨PE_imp (pe_callG F hr hG hg hm hk hb tk ha.run hdb he hpl) fun σ H Qv ⟨n, ow, env, Q, E, st, hq, kk, xx⟩ => ⟨n, ow, env, _, E, st, hq, fun vs ds H1 ow1 env1 y1 s1 o1 l1 l2 hv z => by
    split at z
    · rename_i args ea
      exact call_run hio hK hn s1 l1 hv l2 ea z (fun v t H2 ow2 env2 y2 s2 o2 r2 z2 => kk v t H2 ow2 env2 (y1.trans y2 subl subr (Nat.le_refl _) (Nat.le_refl _)) s2 (o1.trans o2 subl subr) r2 z2) (xx.step y1 o1 subl subr (Nat.le_refl _) (Nat.le_refl _))
    · exact z.elim, fun r d H' ow' env' y s' o => xx r d H' ow' env' (y.mono subl (Nat.le_refl _)) s' (o.mono subl)⟩⟩
end
end QV

set_option Elab.async false
set_option linter.all false
set_option maxRecDepth 100000
set_option maxHeartbeats 2000000
namespace QV
open PySem L2

def wipeE (env : Env) : List Nat → Env
  | [] => env
  | v :: vs => (wipeE env vs).set v none
def rstE (e0 : Env) : List Nat → Env → Env
  | [], e => e
  | v :: vs, e => (rstE e0 vs e).set v ((e0[v]?).getD none)
theorem wipeE_len (env : Env) : ∀ vs, (wipeE env vs).length = env.length
  | [] => rfl
  | v :: vs => by unfold wipeE; rw [List.length_set, wipeE_len env vs]
theorem rstE_len (e0 : Env) : ∀ vs (e : Env), (rstE e0 vs e).length = e.length
  | [], _ => rfl
  | v :: vs, e => by unfold rstE; rw [List.length_set, rstE_len e0 vs e]
theorem wipeE_some {env : Env} {i : Nat} {t : T} : ∀ {vs : List Nat}, (wipeE env vs)[i]? = some (some t) → env[i]? = some (some t) ∧ i ∉ vs
  | [], h => ⟨h, by simp⟩
  | v :: vs, h => by
    unfold wipeE at h
    by_cases hi : v = i
    · subst hi
      by_cases hv : v < (wipeE env vs).length
      · rw [List.getElem?_set_self hv] at h; cases h
      · rw [List.getElem?_eq_none (by simpa using hv)] at h; cases h
    · rw [List.getElem?_set_ne hi] at h
      obtain ⟨h1, h2⟩ := wipeE_some h
      exact ⟨h1, by simp only [List.mem_cons, not_or]; exact ⟨fun e => hi e.symm, h2⟩⟩
theorem rstE_out {e0 : Env} {i : Nat} : ∀ {vs : List Nat} {e : Env}, i ∉ vs → (rstE e0 vs e)[i]? = e[i]?
  | [], _, _ => rfl
  | v :: vs, e, h => by
    unfold rstE
    rw [List.getElem?_set_ne fun z => h (by rw [z]; exact List.mem_cons_self)]
    exact rstE_out fun z => h (List.mem_cons_of_mem _ z)
theorem rstE_in {e0 : Env} {i : Nat} {t : T} : ∀ {vs : List Nat} {e : Env}, i ∈ vs → (rstE e0 vs e)[i]? = some (some t) → e0[i]? = some (some t)
  | [], _, h, _ => by simp at h
  | v :: vs, e, hi, h => by
    unfold rstE at h
    by_cases hv : v = i
    · subst hv
      by_cases hl : v < (rstE e0 vs e).length
      · rw [List.getElem?_set_self hl] at h
        cases e1 : e0[v]? with
        | none => rw [e1] at h; cases h
        | some u => rw [e1] at h; exact h
      · rw [List.getElem?_eq_none (by simpa using hl)] at h; cases h
    · rw [List.getElem?_set_ne hv] at h
      exact rstE_in ((List.mem_cons.mp hi).resolve_left fun z => hv z.symm) h
theorem wipeE_out {env : Env} {i : Nat} : ∀ {vs : List Nat}, i ∉ vs → (wipeE env vs)[i]? = env[i]?
  | [], _ => rfl
  | v :: vs, h => by
    unfold wipeE
    rw [List.getElem?_set_ne fun z => h (by rw [z]; exact List.mem_cons_self)]
    exact wipeE_out fun z => h (List.mem_cons_of_mem _ z)
theorem wipe_in {σ : L2.St} {i : Nat} : ∀ {vs : List Nat}, i ∈ vs → i < σ.length → (wipe σ vs)[i]? = some none
  | [], h, _ => by simp at h
  | v :: vs, h, hl => by
    unfold wipe
    by_cases hv : v = i
    · subst hv
      exact List.getElem?_set_self (by rw [wipe_length]; exact hl)
    · rw [List.getElem?_set_ne hv]
      exact wipe_in ((List.mem_cons.mp h).resolve_left fun z => hv z.symm) hl
theorem wipe_tch {SS vs : List Nat} {σ σ2 : L2.St} (h : Tch SS (wipe σ vs) σ2) (hs : ∀ i ∈ SS, i ∈ vs) : wipe σ2 vs = wipe σ vs := by
  apply List.ext_getElem?
  intro i
  have l : σ2.length = σ.length := h.len.trans (wipe_length σ vs)
  by_cases hi : i ∈ vs
  · by_cases hl : i < σ.length
    · rw [wipe_in hi hl, wipe_in hi (by omega)]
    · rw [List.getElem?_eq_none (by rw [wipe_length]; omega), List.getElem?_eq_none (by rw [wipe_length]; omega)]
  · rw [wipe_out hi, h.eq i fun z => hi (hs i z)]
section
variable {K : PySem.W.Frag} {H H' : Hp} {ow ow' : Ow} {σ σ2 : L2.St} {env env' : Env} {vs SS : List Nat}
theorem StOk.wipe (s : StOk K H ow σ env) : StOk K H ow (L2.wipe σ vs) (wipeE env vs) := ⟨by rw [wipeE_len, wipe_length]; exact s.len, fun i t e => by
  obtain ⟨e1, hi⟩ := wipeE_some e
  obtain ⟨v, e2, r⟩ := s.at_ i t e1
  exact ⟨v, by rw [wipe_out hi]; exact e2, r⟩⟩
theorem StOk.rst (s : StOk K H ow σ env) (s2 : StOk K H' ow' σ2 env') (tc : Tch SS (L2.wipe σ vs) σ2) (hs : ∀ i ∈ SS, i ∈ vs) (car : ∀ i ∈ vs, Car H H' ow ow' (.sl i) (.sl i)) : StOk K H' ow' σ (rstE env vs env') := ⟨by rw [rstE_len, s2.len, tc.len, wipe_length], fun i t e => by
  by_cases hi : i ∈ vs
  · obtain ⟨v, e1, r⟩ := s.at_ i t (rstE_in hi e)
    exact ⟨v, e1, (car i hi).tq r⟩
  · rw [rstE_out hi] at e
    obtain ⟨v, e1, r⟩ := s2.at_ i t e
    rw [tc.eq i fun z => hi (hs i z), wipe_out hi] at e1
    exact ⟨v, e1, r⟩⟩
end
abbrev noX : XQ := fun _ _ => False
abbrev W0 : WX := fun _ _ _ _ => False
theorem xk0 {K : PySem.W.Frag} {M : List Nat} {σ : L2.St} {H : Hp} {n : Nat} {ow : Ow} {env : Env} {W : WX} : Xk K W M σ H n ow env noX := fun _ _ _ _ _ _ _ _ _ z => z.elim
structure QTs (X : Cx) (W : WX) (M : List Nat) (ifs : List Expr) (q : SemT) : Prop where
  run : PTs X ifs (tT X.K W M q)
def sYes : SemT := fun env Q _ => Q true env
theorem PTs_imp {X : Cx} {e : List Expr} {t t' : TT} (h : PTs X e t) (f : ∀ σ H Q, t' σ H Q → t σ H Q) : PTs X e t' := ⟨fun pins s σ H Q I q => h.run pins s σ H Q I (f _ _ _ q)⟩
theorem ts_nil {X : Cx} {W : WX} : QTs X W [] [] sYes := ⟨PTs_imp pts_nil fun σ H Qv ⟨n, ow, env, Q, E, s, hq, k, x⟩ => k true H ow env Stp.refl s Out.refl hq⟩
inductive LcG (g : SemG) (t : SemT) (q : SemE) (vs : List Nat) (Q : T → Env → Prop) (ds : List D) (env1 : Env) : Prop
  | mk (h : ∃ I : Nat → List D → Env → Prop, I 0 [] env1 ∧
  (∀ j d acc env', ds[j]? = some d → I j acc env' → g d (wipeE env' vs) fun env2 => t env2 (fun b env3 => (b = true → q env3 (fun w env4 => match w with
    | .fz e => I (j + 1) (acc ++ [e]) (rstE env' vs env4)
    | _ => False) noX) ∧ (b = false → I (j + 1) acc (rstE env' vs env3))) noX) ∧ ∀ acc env', I ds.length acc env' → Q (.ow .lst acc) env')
  | no (h : False)
theorem LcG.ex {g : SemG} {t : SemT} {q : SemE} {vs : List Nat} {Q : T → Env → Prop} {ds : List D} {env1 : Env} : LcG g t q vs Q ds env1 → ∃ I : Nat → List D → Env → Prop, I 0 [] env1 ∧
  (∀ j d acc env', ds[j]? = some d → I j acc env' → g d (wipeE env' vs) fun env2 => t env2 (fun b env3 => (b = true → q env3 (fun w env4 => match w with
    | .fz e => I (j + 1) (acc ++ [e]) (rstE env' vs env4)
    | _ => False) noX) ∧ (b = false → I (j + 1) acc (rstE env' vs env3))) noX) ∧ ∀ acc env', I ds.length acc env' → Q (.ow .lst acc) env'
  | .mk h => h
  | .no h => h.elim
def sLc (qi : SemI) (g : SemG) (t : SemT) (q : SemE) (vs : List Nat) : SemE := fun env Q E => qi env (fun ds env1 => LcG g t q vs Q ds env1) E
theorem LcG.fr {g : SemG} {t : SemT} {q : SemE} {vs : List Nat} {Q : T → Env → Prop} {ds : List D} {env : Env} (ms : List Nat) (I : Nat → List D → List (Option T) → Prop) (h0 : ∃ us, env = putE env ms us ∧ I 0 [] us)
    (hs : ∀ j d acc us, ds[j]? = some d → I j acc us → g d (wipeE (putE env ms us) vs) fun env2 => t env2 (fun b env3 => (b = true → q env3 (fun w env4 => match w with
    | .fz e => ∃ us', rstE (putE env ms us) vs env4 = putE env ms us' ∧ I (j + 1) (acc ++ [e]) us'
    | _ => False) noX) ∧ (b = false → ∃ us', rstE (putE env ms us) vs env3 = putE env ms us' ∧ I (j + 1) acc us')) noX) (he : ∀ acc us, I ds.length acc us → Q (.ow .lst acc) (putE env ms us)) : LcG g t q vs Q ds env :=
  .mk ⟨fun j acc e => ∃ us, e = putE env ms us ∧ I j acc us, h0, fun j d acc env' hd ⟨us, e, i⟩ => by subst e; exact hs j d acc us hd i, fun acc env' ⟨us, e, i⟩ => by subst e; exact he acc us i⟩
theorem LcG.flat {g : SemG} {t : SemT} {q : SemE} {vs : List Nat} {Q : T → Env → Prop} {ds : List D} {env : Env} (f : D → Option D)
    (hs : ∀ j d, ds[j]? = some d → g d (wipeE env vs) fun env2 => t env2 (fun b env3 => (b = true → q env3 (fun w env4 => match w with
    | .fz e => (ds.take j).filterMap f ++ [e] = (ds.take (j + 1)).filterMap f ∧ rstE env vs env4 = env
    | _ => False) noX) ∧ (b = false → (ds.take j).filterMap f = (ds.take (j + 1)).filterMap f ∧ rstE env vs env3 = env)) noX) (he : Q (.ow .lst (ds.filterMap f)) env) : LcG g t q vs Q ds env :=
  .mk ⟨fun j acc e => acc = (ds.take j).filterMap f ∧ e = env, ⟨rfl, rfl⟩, fun j d acc env' hd ⟨ha, he⟩ => by subst ha he; exact hs j d hd, fun acc env' ⟨ha, he'⟩ => by subst ha he'; rwa [List.take_of_length_le (Nat.le_refl _)]⟩
theorem nf_map {a : T} {l : List T} : List.map some (a :: l) = some a :: List.map some l := rfl
theorem nf_map0 : List.map some ([] : List T) = [] := rfl
theorem nf_app {a : Option T} {l m : List (Option T)} : (a :: l) ++ m = a :: (l ++ m) := rfl
theorem nf_app0 {m : List (Option T)} : [] ++ m = m := rfl
theorem nf_set0 {a b : Option T} {l : List (Option T)} : (a :: l).set 0 b = b :: l := rfl
theorem nf_setS {a b : Option T} {l : List (Option T)} {n : Nat} : (a :: l).set (n + 1) b = a :: l.set n b := rfl
theorem putE_nil {env : Env} : putE env [] [] = env := rfl
theorem putE_cons {env : Env} {i : Nat} {is : List Nat} {v : Option T} {vs : List (Option T)} : putE env (i :: is) (v :: vs) = putE (env.set i v) is vs := rfl
theorem putO_nil {env : Env} : putO [] [] env = env := rfl
theorem putO_cons {env : Env} {i : Nat} {is : List Nat} {v : T} {vs : List T} : putO (i :: is) (v :: vs) env = putO is vs (env.set i (some v)) := rfl
theorem map_at {α : Type} {l : List α} {g0 : α → D} {j : Nat} {d : D} (h : (l.map g0)[j]? = some d) : ∃ a, l[j]? = some a ∧ d = g0 a := by
  rw [List.getElem?_map] at h
  cases e : l[j]? with
  | none => rw [e] at h; cases h
  | some a => rw [e] at h; cases h; exact ⟨a, rfl, rfl⟩
theorem LcG.over {g : SemG} {t : SemT} {q : SemE} {vs : List Nat} {Q : T → Env → Prop} {ds : List D} {env : Env} {α : Type} (l : List α) (g0 : α → D) (hds : ds = l.map g0) (p : α → Bool) (f : α → D)
    (hs : ∀ j a, l[j]? = some a → g (g0 a) (wipeE env vs) fun env2 => t env2 (fun b env3 => (b = true → q env3 (fun w env4 => match w with
    | .fz e => ((l.take j).filter p).map f ++ [e] = ((l.take (j + 1)).filter p).map f ∧ rstE env vs env4 = env
    | _ => False) noX) ∧ (b = false → ((l.take j).filter p).map f = ((l.take (j + 1)).filter p).map f ∧ rstE env vs env3 = env)) noX) (he : Q (.ow .lst ((l.filter p).map f)) env) : LcG g t q vs Q ds env :=
  .mk ⟨fun j acc e => acc = ((l.take j).filter p).map f ∧ e = env, ⟨rfl, rfl⟩, fun j d acc env' hd ⟨ha, he⟩ => by
    subst ha he hds
    obtain ⟨a, h1, rfl⟩ := map_at hd
    exact hs j a h1, fun acc env' ⟨ha, he'⟩ => by
    subst ha he' hds
    rwa [List.length_map, List.take_of_length_le (Nat.le_refl _)]⟩
theorem all_one {α : Type} {l : List α} {f : α → D} {j : Nat} {a : α} (h : l[j]? = some a) : (l.take j).map f ++ [f a] = (l.take (j + 1)).map f := by
  rw [List.take_add_one, h, List.map_append]; rfl
theorem LcG.each {g : SemG} {t : SemT} {q : SemE} {vs : List Nat} {Q : T → Env → Prop} {ds : List D} {env : Env} {α : Type} (l : List α) (g0 : α → D) (hds : ds = l.map g0) (f : α → D)
    (hs : ∀ j a, l[j]? = some a → g (g0 a) (wipeE env vs) fun env2 => t env2 (fun b env3 => (b = true → q env3 (fun w env4 => match w with
    | .fz e => (l.take j).map f ++ [e] = (l.take (j + 1)).map f ∧ rstE env vs env4 = env
    | _ => False) noX) ∧ (b = false → (l.take j).map f = (l.take (j + 1)).map f ∧ rstE env vs env3 = env)) noX) (he : Q (.ow .lst (l.map f)) env) : LcG g t q vs Q ds env :=
  .mk ⟨fun j acc e => acc = (l.take j).map f ∧ e = env, ⟨rfl, rfl⟩, fun j d acc env' hd ⟨ha, he⟩ => by
    subst ha he hds
    obtain ⟨a, h1, rfl⟩ := map_at hd
    exact hs j a h1, fun acc env' ⟨ha, he'⟩ => by
    subst ha he' hds
    rwa [List.length_map, List.take_of_length_le (Nat.le_refl _)]⟩
theorem ForG.over {g : SemG} {body : SemS} {D : EndsQ} {ds : List QV.D} {env : Env} {α : Type} (l : List α) (g0 : α → QV.D) (hds : ds = l.map g0) (ms : List Nat) (I : Nat → List (Option T) → Prop) (h0 : ∃ vs, env = putE env ms vs ∧ I 0 vs)
    (hs : ∀ j a vs, l[j]? = some a → I j vs → g (g0 a) (putE env ms vs) fun env2 => body { D with nx := fun e => ∃ us, e = putE env ms us ∧ I (j + 1) us, ct := fun e => ∃ us, e = putE env ms us ∧ I (j + 1) us, bk := D.nx } env2) (he : ∀ vs, I l.length vs → D.nx (putE env ms vs)) : ForG g body D ds env :=
  .fr ms I h0 (fun j d vs hd i => by
    subst hds
    obtain ⟨a, h1, rfl⟩ := map_at hd
    exact hs j a vs h1 i) fun vs i => he vs (by subst hds; rwa [List.length_map] at i)
theorem ForG.rng {g : SemG} {body : SemS} {D : EndsQ} {lo : Int} {n : Nat} {env : Env} (ms : List Nat) (I : Nat → List (Option T) → Prop) (h0 : ∃ vs, env = putE env ms vs ∧ I 0 vs)
    (hs : ∀ j vs, j < n → I j vs → g (.int (lo + (j : Nat))) (putE env ms vs) fun env2 => body { D with nx := fun e => ∃ us, e = putE env ms us ∧ I (j + 1) us, ct := fun e => ∃ us, e = putE env ms us ∧ I (j + 1) us, bk := D.nx } env2) (he : ∀ vs, I n vs → D.nx (putE env ms vs)) : ForG g body D (rngD lo n) env :=
  .fr ms I h0 (fun j d vs hd i => by
    obtain ⟨h1, rfl⟩ := rngD_get hd
    exact hs j vs h1 i) fun vs i => he vs (by rwa [rngD_len] at i)
theorem rngD_map {lo : Int} {n : Nat} : rngD lo n = (List.range n).map fun i => D.int (lo + (i : Nat)) := rfl
theorem mem3 {Mi Mt Me : List Nat} : (∀ i ∈ Mi, i ∈ Mi ++ (Mt ++ Me)) ∧ (∀ i ∈ Mt, i ∈ Mi ++ (Mt ++ Me)) ∧ ∀ i ∈ Me, i ∈ Mi ++ (Mt ++ Me) := ⟨subl, fun i h => subr i (subl i h), fun i h => subr i (subr i h)⟩
theorem lc_run {K : PySem.W.Frag} {W : WX} {Mi Mt Me SS vs : List Nat} {qi : SemI} {g : SemG} {t : SemT} {q : SemE} (hs : ∀ i ∈ SS, i ∈ vs) (hv : ∀ i ∈ vs, i ∉ Mt ++ Me) {σ : L2.St} {H : Hp} {Qv : VK} (h : tQ K W (Mi ++ (Mt ++ Me)) (sLc qi g t q vs) σ H Qv) :
    tLc (tI K W Mi qi) (tG K SS g) (tT K W0 Mt t) (tQ K W0 Me q) vs σ H Qv := by
  obtain ⟨n, ow, env, Q, E, s, hq, k, x⟩ := h
  refine ⟨n, ow, env, _, E, s, hq, fun J ds H1 ow1 env1 y1 s1 o1 J1 hI => ?_, fun r d H' ow' env' y s' o => x r d H' ow' env' (y.mono subl (Nat.le_refl _)) s' (o.mono subl)⟩
  obtain ⟨I, i0, it, ie⟩ := hI.ex
  intro D hD
  have key : ∀ {H' : Hp} {ow' : Ow}, Stp (Mi ++ (Mt ++ Me)) n H1 ow1 H' ow' → Stp (Mi ++ (Mt ++ Me)) n H ow H' ow' := fun y => y1.trans y subl (fun _ h => h) (Nat.le_refl _) (Nat.le_refl _)
  refine ⟨fun j m H' => m = ds.length - j ∧ j ≤ ds.length ∧ ∃ ow' env' acc us, Stp (Mi ++ (Mt ++ Me)) n H1 ow1 H' ow' ∧ StOk K H' ow' σ env' ∧ Out (Mi ++ (Mt ++ Me)) env1 env' ∧ H' D = some (.lst us) ∧ ow' D = .tm n ∧ Rps K (Bs H' ow') us acc ∧ us.length ≤ j ∧ I j acc env',
    ⟨ds.length, by simp, Nat.zero_le _, Ow.put ow1 D (.tm n), env1, [], [], Stp.new hD, s1.stp0 (n := 0) (Stp.new hD), Out.refl, upd_same, put_same, .nil, Nat.le_refl _, i0⟩, ?_⟩
  rintro j m H' ⟨rfl, hj, ow', env', acc, us, y', s', o', hDl, hDo, hr, hl, ij⟩
  by_cases hlt : j < ds.length
  · have hd : ds[j]? = some ds[j] := by simp [hlt]
    refine .inr ⟨J1.go j _ H' ow' y'.fs hd, fun H5 => ∃ ow5 env5 acc5 us5, Stp (Mi ++ (Mt ++ Me)) n H1 ow1 H5 ow5 ∧ StOk K H5 ow5 σ env5 ∧ Out (Mi ++ (Mt ++ Me)) env1 env5 ∧ H5 D = some (.lst us5) ∧ ow5 D = .tm n ∧ Rps K (Bs H5 ow5) us5 acc5 ∧ us5.length ≤ j + 1 ∧ I (j + 1) acc5 env5,
      fun H5 ⟨ow5, env5, acc5, us5, q5⟩ => ⟨ds.length - (j + 1), by omega, rfl, hlt, ow5, env5, acc5, us5, q5⟩, fun xv H2 yl => ?_⟩
    obtain ⟨ow2, ex, rx⟩ := J1.yld j _ H' ow' xv H2 y'.fs hd yl
    have y2 : Stp (Mi ++ (Mt ++ Me)) n H' ow' H2 ow2 := ex.stp
    have s2 : StOk K H2 ow2 σ env' := s'.stp0 (n := 0) ex.stp
    refine ⟨ow2, wipeE env' vs, _, _, s2.wipe, rx, it j _ acc env' hd ij, fun σ3 env3 tc oT s3 z3 => ?_⟩
    refine ⟨wipe_tch tc hs, n + 1, ow2, env3, _, noX, s3, z3, fun b H3 ow3 env4 y3 s4 o4 z4 => ?_, xk0⟩
    have hD2 := (ex D _ hDl)
    have hD3 := y3 D _ hD2.1 (by rw [hD2.2, hDo]; exact Nat.lt_succ_self n)
    have hDo3 : ow3 D = .tm n := by rw [hD3.2, hD2.2, hDo]
    have same3 : Same (Bs H' ow') (Bs H3 ow3) := fun a o e => y3.bs a o (y2.bs a o e)
    have y23 : Stp (Mi ++ (Mt ++ Me)) n H' ow' H3 ow3 := y2.trans y3 (fun _ h => h) mem3.2.1 (Nat.le_refl _) (Nat.le_succ _)
    have outs : ∀ {e5 : Env} {H5 : Hp} {ow5 : Ow}, Out (Mt ++ Me) env3 e5 → StOk K H5 ow5 σ3 e5 → Out (Mi ++ (Mt ++ Me)) env1 (rstE env' vs e5) := fun {e5 H5 ow5} oo ss => by
      refine ⟨?_, fun i hi => ?_⟩
      · rw [rstE_len, ss.len, tc.len, wipe_length, ← s'.len, o'.len]
      · rw [← o'.eq i hi]
        by_cases hiv : i ∈ vs
        · by_cases hil : i < env'.length
          · have : ∀ {vs : List Nat}, i ∈ vs → (rstE env' vs e5)[i]? = some ((env'[i]?).getD none) := fun {vs} hm => by
              induction vs with
              | nil => simp at hm
              | cons v vs ih =>
                unfold rstE
                by_cases hv2 : v = i
                · subst hv2
                  exact List.getElem?_set_self (by rw [rstE_len, ss.len, tc.len, wipe_length, ← s'.len]; exact hil)
                · rw [List.getElem?_set_ne hv2]
                  exact ih ((List.mem_cons.mp hm).resolve_left fun z => hv2 z.symm)
            rw [this hiv]
            have e : env'[i]? = some env'[i] := by simp [hil]
            rw [e]
            rfl
          · rw [List.getElem?_eq_none (by rw [rstE_len, ss.len, tc.len, wipe_length, ← s'.len]; omega), List.getElem?_eq_none (by omega)]
        · rw [rstE_out hiv, oo.eq i fun z => hi (subr i z)]
          rw [oT.eq i fun z => hiv (hs i z)]
          exact wipeE_out hiv
    have carV : ∀ {H5 : Hp} {ow5 : Ow}, Stp (Mt ++ Me) (n + 1) H2 ow2 H5 ow5 → ∀ i ∈ vs, Car H2 H5 ow2 ow5 (.sl i) (.sl i) := fun {H5 ow5} yy i hi => yy.car (l := .sl i) (hv i hi)
    cases b with
    | false =>
      refine iteF ?_
      have y3' : Stp (Mt ++ Me) (n + 1) H2 ow2 H3 ow3 := y3.mono subl (Nat.le_refl _)
      exact ⟨ow3, _, acc, us, y'.trans y23 (fun _ h => h) (fun _ h => h) (Nat.le_refl _) (Nat.le_refl _), s2.rst s4 tc hs (carV y3'), outs (o4.mono subl) s4, hD3.1, hDo3, hr.mono same3, Nat.le_succ_of_le hl, z4.2 rfl⟩
    | true =>
      refine iteT ?_
      refine ⟨n + 1, ow3, env4, _, noX, s4, z4.1 rfl, fun v w H4 ow4 env5 y4 s5 o5 r4 z5 => ?_, xk0⟩
      split at z5
      · rename_i e
        have rv := Tq.fz_.mp r4
        have hD4 := y4 D _ hD3.1 (by rw [hDo3]; exact Nat.lt_succ_self n)
        have hDo4 : ow4 D = .tm n := by rw [hD4.2, hDo3]
        have same4 : Same (Bs H' ow') (Bs H4 ow4) := fun a o e => y4.bs a o (same3 a o e)
        have yu : Stp (Mt ++ Me) n H4 ow4 (upd H4 D (.lst (us ++ [v]))) ow4 := ⟨fun a o ea pa => by
          have ne : a ≠ D := fun z => by
            rw [z, hDo4] at pa
            exact absurd pa (Nat.lt_irrefl n)
          exact ⟨by rw [upd_ne ne]; exact ea, rfl⟩, fun a ws ea => by
          have ne : a ≠ D := fun z => by rw [z, hD4.1] at ea; cases ea
          rw [upd_ne ne]; exact ea⟩
        have y34 : Stp (Mt ++ Me) (n + 1) H2 ow2 H4 ow4 := y3.trans y4 subl subr (Nat.le_refl _) (Nat.le_refl _)
        have y25 : Stp (Mt ++ Me) n H2 ow2 (upd H4 D (.lst (us ++ [v]))) ow4 := y34.trans yu (fun _ h => h) (fun _ h => h) (Nat.le_succ _) (Nat.le_refl _)
        have s5u : StOk K (upd H4 D (.lst (us ++ [v]))) ow4 σ3 env5 := ⟨s5.len, fun i t e => by
          obtain ⟨w, e1, r⟩ := s5.at_ i t e
          refine ⟨w, e1, Car.tq ⟨yu.bs, fun a o ea eo => ?_⟩ r⟩
          have ne : a ≠ D := fun z => by
            rw [z, hDo4] at eo
            cases eo
          exact ⟨by rw [upd_ne ne]; exact ea, eo⟩⟩
        have carU : ∀ i ∈ vs, Car H2 (upd H4 D (.lst (us ++ [v]))) ow2 ow4 (.sl i) (.sl i) := fun i hi => ⟨y25.bs, fun a o ea eo => by
          obtain ⟨e1, e2⟩ := y34 a o ea (by rw [eo]; exact hv i hi)
          have ne : a ≠ D := fun z => by
            rw [z, hDo4] at e2
            rw [z] at eo
            rw [eo] at e2
            cases e2
          exact ⟨by rw [upd_ne ne]; exact e1, e2.trans eo⟩⟩
        have yall : Stp (Mi ++ (Mt ++ Me)) n H1 ow1 (upd H4 D (.lst (us ++ [v]))) ow4 := (y'.trans y2 (fun _ h => h) (fun _ h => h) (Nat.le_refl _) (Nat.le_refl _)).trans y25 (fun _ h => h) subr (Nat.le_refl _) (Nat.le_refl _)
        refine ⟨us, hD4.1, Nat.lt_of_le_of_lt hl (Nat.lt_of_lt_of_le hlt J1.sz), ow4, _, acc ++ [e], us ++ [v], yall, s2.rst s5u tc hs carU, outs (o4.trans o5 subl subr) s5, upd_same, hDo4, ?_, by rw [List.length_append]; simpa using hl, z5⟩
        exact (hr.mono fun a o e => yu.bs a o (same4 a o e)).app (.cons (rv.mono yu.bs) .nil)
      · exact z5.elim
  · have e : j = ds.length := by omega
    subst e
    exact .inl ⟨J1.stop H' ow' y'.fs, k (.ref D) (.ow .lst acc) H' ow' env' (key y') s' (o1.trans o' subl (fun _ h => h)) ⟨_, .ow (dx := D) ⟨hDl, Nat.le_trans hl J1.sz, trivial⟩ (fun b fb => by
      have eb : b = D := fb
      rw [eb]; exact hDo) hr⟩ (ie acc env' ij)⟩
end QV

set_option Elab.async false
set_option linter.all false
set_option maxRecDepth 100000
set_option maxHeartbeats 2000000
namespace QV
open PySem L2

section
variable {X : Cx} {W : WX} {Mi Mt Me M IO SS : List Nat} {elt tg iter e : Expr} {ifs : List Expr} {scope : Scope} {own : List (Str × Nat)} {pos spos py : Pos} {qi : SemI} {g : SemG} {t : SemT} {q : SemE} {y : Str} {i : Nat}
theorem q_lc (hc : X.calm = true) (hN : X.N.Nodup) (hi : QI X W Mi tg iter qi) (ok : BlkOk X.N X.env.scope scope own)
    (hg : ∀ (s : Shared) (H : Hp) (C : Addr) (cl : List (Str × Addr)) (fp : List Addr), QG (X.blk s H scope (compEnvC scope cl C X.env) fp) SS tg g) (ht : ∀ (s : Shared) (H : Hp) (C : Addr) (cl : List (Str × Addr)) (fp : List Addr), QTs (X.blk s H scope (compEnvC scope cl C X.env) fp) W0 Mt ifs t)
    (he : ∀ (s : Shared) (H : Hp) (C : Addr) (cl : List (Str × Addr)) (fp : List Addr), QE (X.blk s H scope (compEnvC scope cl C X.env) fp) W0 Me elt q) (hs : ∀ i ∈ SS, i ∈ own.map (·.2) := by decide) (hv : ∀ i ∈ own.map (·.2), i ∉ Mt ++ Me := by decide)
    (hf : ∀ x, foldedSetIterable iter X.env x = pure x := by intro _; rfl) : QE X W (Mi ++ (Mt ++ Me)) (.ListComp elt [⟨tg, iter, ifs, 0⟩] scope pos) (sLc qi g t q (own.map (·.2))) :=
  ⟨PE_imp (pe_lc hc hN hi.run ok (fun s H C cl fp => (hg s H C cl fp).run) (fun s H C cl fp => (ht s H C cl fp).run) (fun s H C cl fp => (he s H C cl fp).run) hf) fun _ _ _ h => lc_run hs hv h⟩
end

section
variable {K : PySem.W.Frag} {H : Hp} {ow : Ow} {σ : L2.St} {env : Env} {i n : Nat} {ds : List D}
theorem own_at (s : StOk K H ow σ env) (e : env[i]? = some (some (.ow .lst ds))) : ∃ a vs, σ[i]? = some (some (.ref a)) ∧ H a = some (.lst vs) ∧ vs.length ≤ sizeLine ∧ Rps K (Bs H ow) vs ds ∧ ow a = .sl i := by
  obtain ⟨v, e1, S, r⟩ := s.at_ i _ e
  cases r with
  | ow c f r => exact ⟨_, _, e1, c.at_, c.sz, r, f _ rfl⟩
theorem own_set {a : Addr} {ds' : List D} {vs' : List V} (hc : ∀ ws, H a ≠ some (.tup ws)) (s : StOk K H ow σ env) (e1 : σ[i]? = some (some (.ref a))) (eo : ow a = .sl i) (hz : vs'.length ≤ sizeLine) (r : Rps K (Bs H ow) vs' ds') :
    Stp [i] n H ow (upd H a (.lst vs')) ow ∧ StOk K (upd H a (.lst vs')) ow σ (env.set i (some (.ow .lst ds'))) ∧ Out [i] env (env.set i (some (.ow .lst ds'))) := by
  have y : ∀ {m : Nat}, Stp [i] m H ow (upd H a (.lst vs')) ow := fun {m} => ⟨fun b o e q => by
    have ne : b ≠ a := fun z => by
      rw [z, eo] at q
      exact absurd (show i ∈ [i] by simp) q
    exact ⟨by rw [upd_ne ne]; exact e, rfl⟩, fun b ws e => by
    have ne : b ≠ a := fun z => hc ws (z ▸ e)
    rw [upd_ne ne]; exact e⟩
  refine ⟨y, s.stp (y (m := 0)) Out.set1 fun j t hj e => ?_, Out.set1⟩
  have ej : j = i := by simpa using hj
  subst ej
  have hl : j < env.length := by
    rw [s.len]
    exact (List.getElem?_eq_some_iff.mp e1).1
  rw [List.getElem?_set_self hl] at e
  cases e
  exact ⟨_, e1, _, .ow (dx := a) ⟨upd_same, hz, trivial⟩ (fun b fb => by
    have eb : b = a := fb
    rw [eb]; exact eo) (r.mono (y (m := 0)).bs)⟩
end
def isLst : Option (Option T) → Bool
  | some (some (.ow .lst _)) => true
  | _ => false
def sMt (i : Nat) (qs : SemD) (g : List D → List D → (D → List D → Prop) → Prop) : SemE := fun env Q E => isLst env[i]? = true ∧ qs env (fun ds env1 => match env1[i]? with
  | some (some (.ow .lst xs)) => g xs ds fun d xs' => Q (.fz d) (env1.set i (some (.ow .lst xs')))
  | _ => False) E
def MtO (K : PySem.W.Frag) (r : V → List V → Hp → VK → Prop) (g : List D → List D → (D → List D → Prop) → Prop) : Prop := ∀ (H : Hp) (B : Hp) (a : Addr) (us vs : List V) (xs ds : List D) (Q : D → List D → Prop) (Qv : VK), H a = some (.lst us) → us.length ≤ sizeLine → Rps K B us xs → Rps K B vs ds → g xs ds Q →
  (∀ v d us' xs', Rp K B v d → us'.length ≤ sizeLine → Rps K B us' xs' → Q d xs' → Qv v (upd H a (.lst us'))) → r (.ref a) vs H Qv
section
variable {X : Cx} {W : WX} {M : List Nat} {ks : List (Option Nat)} {e : Expr} {es : List Expr} {qs : SemD} {x name : Str} {px apos cpos : Pos} {id : String} {r : V → List V → Hp → VK → Prop} {g : List D → List D → (D → List D → Prop) → Prop}
theorem ty_list {K : PySem.W.Frag} {H : Hp} {ow : Ow} {σ : L2.St} {env : Env} {i : Nat} (s : StOk K H ow σ env) (h : isLst env[i]? = true) : ∃ a, σ[i]? = some (some (.ref a)) ∧ tyV K "list" (.ref a) H := by
  cases e : env[i]? with
  | none => rw [e] at h; cases h
  | some o =>
    cases o with
    | none => rw [e] at h; cases h
    | some t =>
      rw [e] at h
      cases t with
      | fz _ => cases h
      | nd _ _ => cases h
      | ow k ds =>
        cases k <;> first | cases h | skip
        obtain ⟨a, vs, e1, c, _⟩ := own_at s e
        exact ⟨a, e1, .inl ⟨rfl, vs, .inl (.inl c)⟩⟩
theorem q_mt (i : Nat) (slot : Slot "list" name id) (hty : typeOf (.builtin id) = pure (.type "method_descriptor")) (hm : MtR X id r) (hr : MtO X.K r g) (ha : QA X W M ks (e :: es) qs) (hk : (ks.all fun x => x.isNone) = true := by rfl) (hN : X.N[i]? = some x := by rfl)
    (hv : Vis X.env.scope x := by first | exact Or.inl rfl | exact Or.inr (Or.inl rfl) | exact Or.inr (Or.inr rfl)) (hd : (x == ("__debug__" : Str)) = false := by decide) (hcd : (x == ("__classdict__" : Str)) = false := by decide)
    (hbase : attributeBase (.Name x px) name X.env (eval (.Name x px) X.env) = eval (.Name x px) X.env := by rfl)
    (hfew : ((backTo cpos (starEach (e :: es) X.env)).all (fun x => !x.1) && (backToKw cpos (keywordEach [] X.env)).all (fun x => x.1.isSome)
      && decide ((e :: es).length + ([] : List Keyword).length + (if ([] : List Keyword).isEmpty then 0 else 1) < 30)) = true := by rfl)
    (hline : (apos.endLine == cpos.line) = true := by rfl) (hs : starEach (e :: es) X.env = (false, eval e X.env) :: starEach es X.env := by rfl) (hplain : (backTo cpos (starEach es X.env)).any (·.1) = false := by rfl) :
    QE X W (M ++ [i]) (.Call (.Attribute (.Name x px) name apos) (e :: es) [] cpos) (sMt i qs g) :=
  ⟨PE_imp (pe_bm PySem.F.plainAttrs_list slot hty hm (pe_var (i := i) hN hv hd hcd) ha.run hbase hfew hline hs hplain) fun σ H Qv ⟨n, ow, env, Q, E, s, ⟨h1, hq⟩, k, xx⟩ => by
    obtain ⟨a, e1, ty⟩ := ty_list s h1
    refine ⟨.ref a, e1, ty, tA_data hk s hq (fun r d H' ow' env' y s' o => xx r d H' ow' env' (y.mono subl (Nat.le_refl _)) s' (o.mono subl)) fun vs ds H1 ow1 env1 y1 s1 o1 l1 rr z => ?_⟩
    split at z
    · rename_i xs ee
      obtain ⟨a', us, e2, c, hz, r1, eo⟩ := own_at s1 ee
      rw [e1] at e2
      cases e2
      refine hr H1 (Bs H1 ow1) a us vs xs ds _ Qv c hz r1 rr z fun v d us' xs' rv hz' r' z' => ?_
      obtain ⟨y2, s2, o2⟩ := own_set (n := n) (fun ws z => by rw [c] at z; cases z) s1 e1 eo hz' r'
      exact k v (.fz d) _ ow1 _ (y1.trans y2 subl subr (Nat.le_refl _) (Nat.le_refl _)) s2 (o1.trans o2 subl subr) (Tq.fz_.mpr (rv.mono y2.bs)) z'
    · exact z.elim⟩
end
section
variable {K : PySem.W.Frag}
def gApp (xs ds : List D) (Q : D → List D → Prop) : Prop := match ds with
  | [d] => xs.length < sizeLine ∧ Q .non (xs ++ [d])
  | _ => False
theorem m_app : MtO K rAppend gApp := by
  intro H B a us vs xs ds Q Qv c hz r rr h k
  unfold gApp at h
  split at h
  · rename_i d
    cases rr with
    | cons rv rr =>
      cases rr
      have l := r.len
      exact ⟨a, us, _, rfl, rfl, c, by omega, k _ _ _ _ .non (by rw [List.length_append]; simp; omega) (r.app (.cons rv .nil)) h.2⟩
  · exact h.elim
end
section
variable {X : Cx} {W : WX} {M Ma Mb IO : List Nat} {e ix : Expr} {q qi : SemE} {x : Str} {px pos tpos : Pos}
theorem q_append (i : Nat) {es : List Expr} {ks : List (Option Nat)} {qs : SemD} {apos cpos : Pos} (ha : QA X W M ks (e :: es) qs) (hk : (ks.all fun x => x.isNone) = true := by rfl) (hN : X.N[i]? = some x := by rfl)
    (hv : Vis X.env.scope x := by first | exact Or.inl rfl | exact Or.inr (Or.inl rfl) | exact Or.inr (Or.inr rfl)) (hd : (x == ("__debug__" : Str)) = false := by decide) (hcd : (x == ("__classdict__" : Str)) = false := by decide)
    (hbase : attributeBase (.Name x px) "append" X.env (eval (.Name x px) X.env) = eval (.Name x px) X.env := by rfl)
    (hfew : ((backTo cpos (starEach (e :: es) X.env)).all (fun x => !x.1) && (backToKw cpos (keywordEach [] X.env)).all (fun x => x.1.isSome)
      && decide ((e :: es).length + ([] : List Keyword).length + (if ([] : List Keyword).isEmpty then 0 else 1) < 30)) = true := by rfl)
    (hline : (apos.endLine == cpos.line) = true := by rfl) (hs : starEach (e :: es) X.env = (false, eval e X.env) :: starEach es X.env := by rfl) (hplain : (backTo cpos (starEach es X.env)).any (·.1) = false := by rfl) :
    QE X W (M ++ [i]) (.Call (.Attribute (.Name x px) "append" apos) (e :: es) [] cpos) (sMt i qs gApp) :=
  q_mt i PySem.F.slot_list_append PySem.F.type_list_append mt_append m_app ha hk hN hv hd hcd hbase hfew hline hs hplain
def sStore (i : Nat) (q qi : SemE) : SemS := fun D env => q env (fun t env1 => match t with
  | .fz d => isLst env1[i]? = true ∧ qi env1 (fun u env2 => match u, env2[i]? with
    | .fz (.int k), some (some (.ow .lst xs)) => ∃ j, ixN xs.length k = some j ∧ D.nx (env2.set i (some (.ow .lst (xs.set j d))))
    | _, _ => False) D.ex
  | _ => False) D.ex
theorem s_store (i : Nat) (he : QE X W Ma e q) (hix : QE X W Mb ix qi) (hN : X.N[i]? = some x := by rfl) (hv : Vis X.env.scope x := by first | exact Or.inl rfl | exact Or.inr (Or.inl rfl) | exact Or.inr (Or.inr rfl)) (hd : (x == ("__debug__" : Str)) = false := by decide)
    (hcd : (x == ("__classdict__" : Str)) = false := by decide) (ha : ∀ v, assign (.Subscript (.Name x px) ix tpos) X.env v = (do
      let ov ← holding [v] (eval (.Name x px) X.env)
      let iv ← holding [v, ov] (eval ix X.env)
      standAt tpos
      holding [v, ov, iv] (setItem ov iv v)
      release [v, ov, iv] []) := by intro _; rfl) (hs : swapsWithSole [.Subscript (.Name x px) ix tpos] e pos.line X.env = pure false := by rfl) (hw : swappedStores [.Subscript (.Name x px) ix tpos] e X.env = pure none := by rfl)
    (h1 : (assignEach [.Subscript (.Name x px) ix tpos] X.env).map (·.2) = [assign (.Subscript (.Name x px) ix tpos) X.env] := by rfl) : QS X W IO (.Assign [.Subscript (.Name x px) ix tpos] e pos) (sStore i q qi) :=
  ⟨PS_imp (ps_asg he.run (pg_sub (pe_var (i := i) hN hv hd hcd) hix.run set_list ha) hs hw h1) fun D σ H ⟨ow, env, De, s, hq, k⟩ => ⟨0, ow, env, _, De.ex, s, hq, fun v t H1 ow1 env1 y1 s1 _ r1 z => by
    split at z
    · rename_i d
      obtain ⟨hl, z⟩ := z
      obtain ⟨a, e1, _⟩ := ty_list s1 hl
      refine ⟨.ref a, e1, 1, ow1, env1, _, De.ex, s1, z, fun w u H2 ow2 env2 y2 s2 _ r2 z2 => ?_, (k.ex.step y1.fs Ios.refl).xk⟩
      split at z2
      · rename_i kk xs e2
        obtain ⟨j, hj, z2⟩ := z2
        obtain ⟨a', us, e3, c, hz, rr, eo⟩ := own_at s2 e2
        rw [e1] at e3
        cases e3
        have ew := Tq.rd r2
        cases ew
        have rd := (Tq.fz_.mp r1).mono y2.bs
        refine ⟨a, us, kk, j, rfl, rfl, c, by rw [rr.len]; exact hj, ?_⟩
        obtain ⟨y3, s3, _⟩ := own_set (n := 0) (fun ws z => by rw [c] at z; cases z) s2 e1 eo (by rw [List.length_set]; exact hz) (rr.set rd j)
        exact k.nx _ _ _ _ ((y1.fs.trans y2.fs).trans y3.fs) Ios.refl s3 z2
      · exact z2.elim
    · exact z.elim, k.ex.xk⟩⟩
end
theorem pget_list {X : Cx} : PGet X (fun o i H Q => ∃ p xs k v, o = .ref p ∧ i = .int k ∧ SqL X.K H p xs ∧ atI xs k = some v ∧ Q v H) := by
  intro pins s σ H o i ov iv Q I ro ri ⟨p, xs, k, v, e1, e2, hq, he, q⟩
  subst e1 e2
  cases ro
  obtain ⟨t, rfl⟩ := ri
  obtain ⟨its, r, pl, hz⟩ := I.list hq
  obtain ⟨j, h1, h2, h3, h4, h5⟩ := atI_get he
  obtain ⟨w, ew, rw'⟩ := r.get h2
  have hl := r.length
  have hn := line63
  have fin : EP X pins σ Q w s := ⟨v, H, I, rw', q⟩
  by_cases h0 : 0 ≤ k
  · have hj : k.toNat = j := by
      rw [PySem.seqIndex_of h0 h5] at h1
      exact Option.some.inj h1
    exact PySem.wpAny_getItem_list pl.isList h0 (by omega) (by rw [hj]; simpa using ew) fin
  · have hj : (k + (its.toArray.size : Int)).toNat = j := by
      rw [PySem.seqIndex_neg (by omega) h4] at h1
      rw [List.size_toArray, ← hl]
      exact Option.some.inj h1
    exact PySem.wpAny_getItem_list_neg pl.isList (by omega) (by rw [List.size_toArray] <;> omega) (by omega) (by rw [hj]; simpa using ew) fin
def sAugS (i : Nat) (qi q : SemE) (f : Int → Int → Int) : SemS := fun D env => isLst env[i]? = true ∧ qi env (fun u env1 => match u, env1[i]? with
  | .fz (.int k), some (some (.ow .lst xs)) => ∃ j, ixN xs.length k = some j ∧ ∃ m : Int, xs[j]? = some (.int m) ∧ q env1 (fun t env2 => match t, env2[i]? with
    | .fz (.int b), some (some (.ow .lst ys)) => j < ys.length ∧ ys.length = xs.length ∧ D.nx (env2.set i (some (.ow .lst (ys.set j (.int (f m b))))))
    | _, _ => False) D.ex
  | _, _ => False) D.ex
section
variable {X : Cx} {W : WX} {M Ma Mb IO : List Nat} {e ix : Expr} {q qi : SemE} {x : Str} {px pos tpos : Pos} {op : Operator} {f : Int → Int → Int}
theorem s_augS (i : Nat) (hop : PIp X op (ipI f)) (hix : QE X W Mb ix qi) (he : QE X W Ma e q) (hN : X.N[i]? = some x := by rfl) (hv : Vis X.env.scope x := by first | exact Or.inl rfl | exact Or.inr (Or.inl rfl) | exact Or.inr (Or.inr rfl)) (hd : (x == ("__debug__" : Str)) = false := by decide)
    (hcd : (x == ("__classdict__" : Str)) = false := by decide) (ha : ∀ ov iv new, augStore ix ov iv new = (do holding [new, ov, iv] (setItem ov iv new); release [new, ov, iv] []; pure .next) := by intros; rfl) :
    QS X W IO (.AugAssign (.Subscript (.Name x px) ix tpos) op e pos) (sAugS i qi q f) :=
  ⟨PS_imp (ps_augS (pe_var (i := i) hN hv hd hcd) hix.run pget_list he.run hop set_list ha) fun D σ H ⟨ow, env, De, s, ⟨h1, hq⟩, k⟩ => by
    obtain ⟨a, e1, _⟩ := ty_list s h1
    refine ⟨.ref a, e1, 0, ow, env, _, De.ex, s, hq, fun w u H1 ow1 env1 y1 s1 _ r1 z1 => ?_, k.ex.xk⟩
    split at z1
    · rename_i kk xs e2
      obtain ⟨j, hj, m, hm, z1⟩ := z1
      obtain ⟨a', us, e3, c, hz, rr, eo⟩ := own_at s1 e2
      rw [e1] at e3
      cases e3
      have ew := Tq.rd r1
      cases ew
      obtain ⟨v, ev, rv⟩ := rr.get hm
      cases rv
      refine ⟨a, us, kk, .int m, rfl, rfl, .inl (.inl c), ?_, 1, ow1, env1, _, De.ex, s1, z1, fun w2 t H2 ow2 env2 y2 s2 _ r2 z2 => ?_, (k.ex.step y1.fs Ios.refl).xk⟩
      · unfold L2.atI
        rw [rr.len, hj]
        exact ev
      · split at z2
        · rename_i bb ys e4
          obtain ⟨hjl, hly, z2⟩ := z2
          obtain ⟨a', us2, e5, c2, hz2, rr2, eo2⟩ := own_at s2 e4
          rw [e1] at e5
          cases e5
          have ew2 := Tq.rd r2
          cases ew2
          refine ⟨m, bb, rfl, rfl, a, us2, kk, j, rfl, rfl, c2, by rw [rr2.len, hly]; exact hj, ?_⟩
          obtain ⟨y3, s3, _⟩ := own_set (n := 0) (fun ws z => by rw [c2] at z; cases z) s2 e1 eo2 (by rw [List.length_set]; exact hz2) (rr2.set (.int (f m bb)) j)
          exact k.nx _ _ _ _ ((y1.fs.trans y2.fs).trans y3.fs) Ios.refl s3 z2
        · exact z2.elim
    · exact z1.elim⟩
end
end QV

set_option Elab.async false
set_option linter.all false
set_option maxRecDepth 100000
set_option maxHeartbeats 2000000
namespace QV
open PySem L2

def cutL {α : Type} (xs : List α) (lo hi : Option Int) : List α := (xs.drop (HT.sIx xs.length 0 lo)).take (HT.sIx xs.length xs.length hi - HT.sIx xs.length 0 lo)
abbrev SemO := Env → (Option Int → Env → Prop) → XQ → Prop
def tO (K : PySem.W.Frag) (W : WX) (M : List Nat) (q : SemO) : TO := fun σ H Qv => ∃ (n : Nat) (ow : Ow) (env : Env) (Q : Option Int → Env → Prop) (E : XQ), StOk K H ow σ env ∧ q env Q E ∧
  (∀ (o : Option Int) (H' : Hp) (ow' : Ow) (env' : Env), Stp M n H ow H' ow' → StOk K H' ow' σ env' → Out M env env' → Q o env' → Qv o H') ∧ Xk K W M σ H n ow env E
structure QO (X : Cx) (W : WX) (M : List Nat) (e : Option Expr) (q : SemO) : Prop where
  run : PO X e (tO X.K W M q)
theorem PO_imp {X : Cx} {e : Option Expr} {t t' : TO} (h : PO X e t) (f : ∀ σ H Q, t' σ H Q → t σ H Q) : PO X e t' := ⟨fun pins s σ H Q I q => h.run pins s σ H Q I (f _ _ _ q)⟩
def oNone : SemO := fun env Q _ => Q none env
def oSome (q : SemE) : SemO := fun env Q E => q env (fun t env1 => match t with
  | .fz (.int i) => Q (some i) env1
  | _ => False) E
def SlG (K : PySem.W.Frag) (r : V → Option Int → Option Int → Hp → VK → Prop) (g : T → Option Int → Option Int → (T → Prop) → Prop) : Prop := ∀ (H : Hp) (ow : Ow) (n : Nat) (x : V) (t : T) (lo hi : Option Int) (Q : T → Prop) (Qv : VK), Ro K H ow x t → g t lo hi Q →
  (∀ v w H' ow', Stp [] n H ow H' ow' → Tq K H' ow' (.tm n) v w → Q w → Qv v H') → r x lo hi H Qv
def sSl (pa : SemP) (ql qh : SemO) (g : T → Option Int → Option Int → (T → Prop) → Prop) : SemE := fun env Q E => pa env (fun t _ env1 => ql env1 (fun lo env2 => qh env2 (fun hi env3 => g t lo hi fun w => Q w env3) E) E) E
section
variable {X : Cx} {W : WX} {M Ma Ml Mh : List Nat} {e : Expr} {lo hi : Option Expr} {pa : SemP} {q : SemE} {ql qh : SemO} {ra : Option Nat} {pos p2 : Pos}
theorem o_none : QO X W [] none oNone := ⟨PO_imp po_none fun σ H Qv ⟨n, ow, env, Q, E, s, hq, k, x⟩ => k none H ow env Stp.refl s Out.refl hq⟩
theorem o_some (h : QE X W M e q) : QO X W M (some e) (oSome q) := ⟨PO_imp (po_some h.run) fun σ H Qv ⟨n, ow, env, Q, E, s, hq, k, x⟩ => ⟨n, ow, env, _, E, s, hq, fun v t H' ow' env' y s' o r z => by
  split at z
  · have := Tq.rd r
    cases this
    exact ⟨_, rfl, k _ H' ow' env' y s' o z⟩
  · exact z.elim, x⟩⟩
theorem q_sl {r : V → Option Int → Option Int → Hp → VK → Prop} {g : T → Option Int → Option Int → (T → Prop) → Prop} (hs : SlR X r) (hg : SlG X.K r g) (ha : QP X W Ma ra e pa) (hl : QO X W Ml lo ql) (hh : QO X W Mh hi qh) (hr : okR ra Ml = true := by decide) (hr2 : okR ra Mh = true := by decide) :
    QE X W (Ma ++ (Ml ++ Mh)) (.Subscript e (.Slice lo hi none p2) pos) (sSl pa ql qh g) :=
  ⟨PE_imp (pe_slice hs ha.run hl.run hh.run) fun σ H Qv ⟨n, ow, env, Q, E, s, hq, k, x⟩ => ⟨n, ow, env, _, E, s, hq, fun v t pt H1 ow1 env1 y1 s1 o1 r1 z1 =>
    ⟨n + 1, ow1, env1, _, E, s1, z1, fun l H2 ow2 env2 y2 s2 o2 z2 => ⟨n + 1, ow2, env2, _, E, s2, z2, fun u H3 ow3 env3 y3 s3 o3 z3 => by
      have y12 := y1.trans y2 subl (fun i h => subr i (subl i h)) (Nat.le_refl _) (Nat.le_succ _) (M := Ma ++ (Ml ++ Mh))
      have o12 := o1.trans o2 subl (fun i h => subr i (subl i h)) (M := Ma ++ (Ml ++ Mh))
      have r3 := ((r1.stp y2 o2 hr (Nat.lt_succ_self _)).stp y3 o3 hr2 (Nat.lt_succ_self _)).ro s3
      exact hg H3 ow3 n v t l u _ Qv r3 z3 fun v' w H4 ow4 y4 r4 z4 => k v' w H4 ow4 env3 ((y12.trans y3 (fun _ h => h) (fun i h => subr i (subr i h)) (Nat.le_refl _) (Nat.le_succ _)).trans y4 (fun _ h => h) nilsub (Nat.le_refl _) (Nat.le_refl _)) (s3.stp0 y4) (o12.trans o3 (fun _ h => h) (fun i h => subr i (subr i h))) r4 z4,
      x.step (y1.trans y2 subl (fun i h => subr i (subl i h)) (Nat.le_refl _) (Nat.le_succ _)) (o1.trans o2 subl (fun i h => subr i (subl i h))) (fun _ h => h) (fun i h => subr i (subr i h)) (Nat.le_refl _) (Nat.le_succ _)⟩,
      x.step y1 o1 subl (fun i h => subr i (subl i h)) (Nat.le_refl _) (Nat.le_succ _)⟩, fun r d H' ow' env' y s' o => x r d H' ow' env' (y.mono subl (Nat.le_refl _)) s' (o.mono subl)⟩⟩
end
section
variable {K : PySem.W.Frag}
theorem cutV_eq (xs : List V) (lo hi : Option Int) : cutV xs lo hi = cutL xs lo hi := rfl
theorem Rps.cut {B : Hp} {vs : List V} {ds : List D} (r : Rps K B vs ds) (lo hi : Option Int) : Rps K B (cutL vs lo hi) (cutL ds lo hi) := by
  unfold cutL
  rw [r.len]
  exact (r.drop _).take _
theorem cut_ints (ns : List Int) (lo hi : Option Int) : cutL (ns.map V.int) lo hi = (cutL ns lo hi).map V.int := by
  unfold cutL
  rw [List.length_map, ← List.map_drop, ← List.map_take]
theorem cutL_len {α : Type} (xs : List α) (lo hi : Option Int) : (cutL xs lo hi).length ≤ xs.length := by
  unfold cutL
  rw [List.length_take, List.length_drop]
  omega
def slG (t : T) (lo hi : Option Int) (Q : T → Prop) : Prop := match t with
  | .fz (.nd .lst ds) => Q (.ow .lst (cutL ds lo hi))
  | .ow .lst ds => Q (.ow .lst (cutL ds lo hi))
  | .fz (.scr ns) => ns.length ≤ sizeLine ∧ Q (.ow .lst ((cutL ns lo hi).map .int))
  | .fz (.nd .tup ds) => Q (.fz (.nd .tup (cutL ds lo hi)))
  | .fz (.str z) => z.length ≤ sizeLine ∧ Q (.fz (.str (cutS z lo hi)))
  | _ => False
def rSlAll (K : PySem.W.Frag) : V → Option Int → Option Int → Hp → VK → Prop := fun x lo hi H Q => rSlL K x lo hi H Q ∨ rSlA K x lo hi H Q ∨ rSlS x lo hi H Q
theorem sl_all {X : Cx} : SlR X (rSlAll X.K) := sl_list.or (sl_tupA.or sl_str)
theorem g_sl : SlG K (rSlAll K) slG := by
  intro H ow n x t lo hi Q Qv rx h k
  have lst : ∀ {ds : List D}, shL t = some ds → Q (.ow .lst (cutL ds lo hi)) → rSlAll K x lo hi H Qv := fun {ds} e q => by
    obtain ⟨a, vs, rfl, c, z, r⟩ := rx.lst e
    exact .inl ⟨a, vs, rfl, .inl (.inl c), fun p hp => k _ _ _ (Ow.put ow p (.tm n)) (Stp.new hp) (Tq.newL hp (Nat.le_trans (cutV_length _ _ _) z) (r.cut lo hi)) q⟩
  unfold slG at h
  split at h
  · exact lst rfl h
  · exact lst rfl h
  · rename_i ns
    have rd := rx.rd
    cases rd with
    | scr c =>
      refine .inl ⟨_, _, rfl, c, fun p hp => k _ _ _ (Ow.put ow p (.tm n)) (Stp.new hp) (Tq.newL hp ?_ ?_) h.2⟩
      · exact Nat.le_trans (cutV_length _ _ _) (by rw [List.length_map]; exact h.1)
      · rw [cutV_eq, cut_ints]
        exact of_ints _
  · rename_i ds
    obtain ⟨a, vs, rfl, c, z, r⟩ := rx.tup rfl
    refine .inr (.inl ⟨a, vs, rfl, c, fun w => ?_, fun _ p hp => k _ _ _ (Ow.put ow p .base) (Stp.new hp) (Tq.fz_.mpr (.tup (by rw [bs_of put_same, upd_same]) (Nat.le_trans (cutV_length _ _ _) z) ((r.cut lo hi).mono (Stp.bs (M := []) (n := 0) (Stp.new hp))))) h⟩)
    have e : cutL ds lo hi = ds := by
      unfold cutL
      rw [← r.len, w.1, w.2]
      simp [r.len]
    rw [e] at h
    exact k _ _ H ow Stp.refl (by obtain ⟨l, rx⟩ := rx; exact Tq.fz_.mpr (Tq.fz_.mp rx)) h
  · exact .inr (.inr ⟨_, rx.str, h.1, k _ _ H ow Stp.refl (Tq.fz_.mpr (.str _)) h.2⟩)
  · exact h.elim
end
section
variable {X : Cx} {W : WX} {M Ma Ml Mh : List Nat} {e : Expr} {lo hi : Option Expr} {pa : SemP} {q : SemE} {ql qh : SemO} {ra : Option Nat} {pos p1 p2 p3 : Pos}
theorem q_slice (ha : QP X W Ma ra e pa) (hl : QO X W Ml lo ql) (hh : QO X W Mh hi qh) (hr : okR ra Ml = true := by decide) (hr2 : okR ra Mh = true := by decide) : QE X W (Ma ++ (Ml ++ Mh)) (.Subscript e (.Slice lo hi none p2) pos) (sSl pa ql qh slG) := q_sl sl_all g_sl ha hl hh hr hr2
def Mt1 (K : PySem.W.Frag) (r : V → List V → Hp → VK → Prop) (g : Str → T → (T → Prop) → Prop) : Prop := ∀ (H : Hp) (ow : Ow) (n : Nat) (x : Str) (v : V) (t : T) (Q : T → Prop) (Qv : VK), Ro K H ow v t → g x t Q →
  (∀ v w H' ow', Stp [] n H ow H' ow' → Tq K H' ow' (.tm n) v w → Q w → Qv v H') → r (.str x) [v] H Qv
def sM1 (q : SemE) (pa : SemP) (g : Str → T → (T → Prop) → Prop) : SemE := fun env Q E => q env (fun t env1 => match t with
  | .fz (.str x) => pa env1 (fun u _ env2 => g x u fun w => Q w env2) E
  | _ => False) E
theorem q_m1 {o : Expr} {id : String} {name : Str} {apos : Pos} {r : V → List V → Hp → VK → Prop} {g : Str → T → (T → Prop) → Prop} (slot : Slot "str" name id) (ty : typeOf (.builtin id) = pure (.type "method_descriptor")) (rule : MtR X id r) (hg : Mt1 X.K r g) (ho : QE X W Ma o q) (he : QP X W Ml ra e pa)
    (hs : starEach [e] X.env = [(false, eval e X.env)] := by rfl) (hbase : attributeBase o name X.env (eval o X.env) = eval o X.env := by rfl) (hline : (apos.endLine == pos.line) = true := by rfl) : QE X W (Ma ++ Ml) (.Call (.Attribute o name apos) [e] [] pos) (sM1 q pa g) :=
  ⟨PE_imp (pe_m1 slot ty rule ho.run he.run hs hbase hline) fun σ H Qv ⟨n, ow, env, Q, E, s, hq, k, x⟩ => ⟨n, ow, env, _, E, s, hq, fun v t H1 ow1 env1 y1 s1 o1 r1 z1 => by
    split at z1
    · have rd := Tq.rd r1
      cases rd
      refine ⟨⟨_, rfl⟩, n + 1, ow1, env1, _, E, s1, z1, fun w u pt H2 ow2 env2 y2 s2 o2 r2 z2 => ?_, x.step y1 o1 subl subr (Nat.le_refl _) (Nat.le_succ _)⟩
      exact hg H2 ow2 n _ w u _ Qv (r2.ro s2) z2 fun v' w' H3 ow3 y3 r3 z3 => k v' w' H3 ow3 env2 ((y1.trans y2 subl subr (Nat.le_refl _) (Nat.le_succ _)).trans y3 (fun _ h => h) nilsub (Nat.le_refl _) (Nat.le_refl _)) (s2.stp0 y3) (o1.trans o2 subl subr) r3 z3
    · exact z1.elim, fun r d H' ow' env' y s' o => x r d H' ow' env' (y.mono subl (Nat.le_refl _)) s' (o.mono subl)⟩⟩
def joinG (a : Str) (t : T) (Q : T → Prop) : Prop := ∃ ys : List Str, seqT t = some (ys.map .str) ∧ (ys.map (·.length)).sum + ys.length * a.length ≤ 16777216 ∧ Q (.fz (.str (Txt.join a ys)))
theorem strs_of {K : PySem.W.Frag} {B : Hp} : ∀ {vs : List V} {ns : List Str}, Rps K B vs (ns.map .str) → vs = ns.map V.str
  | _, [], .nil => rfl
  | _, n :: ns, .cons r s => by
    cases r
    rw [List.map_cons, strs_of s]
theorem g_join {K : PySem.W.Frag} : Mt1 K (fun x xs H Q => ∃ a p, ∃ ys : List Str, x = .str a ∧ xs = [.ref p] ∧ (SqL K H p (ys.map V.str) ∨ SqT K H p (ys.map V.str)) ∧ (ys.map (·.length)).sum + ys.length * a.length ≤ 16777216 ∧ Q (.str (Txt.join a ys)) H) joinG := by
  intro H ow n x v t Q Qv rv ⟨ys, e, hz, q⟩ k
  obtain ⟨a, vs, rfl, c, z, r⟩ := rv.seq e
  have ev := strs_of r
  subst ev
  exact ⟨x, a, ys, rfl, rfl, c, hz, k _ _ H ow Stp.refl (Tq.fz_.mpr (.str _)) q⟩
theorem q_join {o : Expr} {apos : Pos} (ho : QE X W Ma o q) (he : QP X W Ml ra e pa) (hs : starEach [e] X.env = [(false, eval e X.env)] := by rfl) (hbase : attributeBase o "join" X.env (eval o X.env) = eval o X.env := by rfl) (hline : (apos.endLine == pos.line) = true := by rfl) :
    QE X W (Ma ++ Ml) (.Call (.Attribute o "join" apos) [e] [] pos) (sM1 q pa joinG) := q_m1 F.slot_str_join F.type_str_join mt_join g_join ho he hs hbase hline
end
def shwD (d : D) : Prop := d.py.showable = true ∧ d.py.shown.length ≤ sizeLine
theorem noDict_of_lay : ∀ d : PyData, d.canLay0 = true → d.hasDict = false := fun d h => PyData.hasDict_of_canLay d h
def rRepr (K : PySem.W.Frag) : List V → Hp → VK → Prop := fun xs H Q => ∃ x d, xs = [x] ∧ Dp K H x d ∧ SeqAt.shaped d = true ∧ d.showable = true ∧ d.shown.length ≤ sizeLine ∧ Q (.str d.shown) H
theorem c_repr {X : Cx} (hG : X.A.guards = some []) (hu : X.A.units + 66 < cLine) : CallR X (.builtin "repr") (rRepr X.K) := by
  intro pins s σ H xs us Q I r ⟨x, d, ex, hd, hs, hw, hz, q⟩
  subst ex
  obtain ⟨u, rfl, ru⟩ := vals1 r
  have hl := SeqAt.canLay_of_shaped hs
  have hdep := SeqAt.depth_of_shaped hs
  obtain ⟨as, rd⟩ := Dp.reads I d x u hd ru
  cases hd with
  | non => cases ru; rw [PyData.shown_none] at q; exact PySem.P.repr_of_none ⟨.str _, H, I.tok _, ⟨_, rfl⟩, q⟩
  | bl b => cases ru; rw [PyData.shown_bool] at q; exact PySem.P.repr_of_bool ⟨.str _, H, I.tok _, ⟨_, by cases b <;> rfl⟩, q⟩
  | int i => obtain ⟨t, rfl⟩ := ru; rw [PyData.shown_int] at q; exact PySem.P.repr_of_int (by simpa [PyData.showable] using hw) ⟨.str _, H, I.tok _, ⟨_, rfl⟩, q⟩
  | str z => obtain ⟨t, rfl⟩ := ru; rw [PyData.shown_str] at q hz; exact PySem.P.repr_of_str ⟨.str _, H, I.tok _, ⟨_, rfl⟩, q⟩ hz
  | lst h1 h2 =>
    cases ru
    exact repr_of_reads' rd hw (fun z => by rw [noDict_of_lay _ hl] at z; cases z) hG (by omega) (fun _ _ e => e) (fun h' u tk hk => ⟨.str _, H, I.kept hk, ⟨_, rfl⟩, q⟩) hz
  | tup h1 h2 =>
    cases ru
    exact repr_of_reads' rd hw (fun z => by rw [noDict_of_lay _ hl] at z; cases z) hG (by omega) (fun _ _ e => e) (fun h' u tk hk => ⟨.str _, H, I.kept hk, ⟨_, rfl⟩, q⟩) hz
def reprG (t : T) (Q : T → Prop) : Prop := t.d.pl 64 = true ∧ shwD t.d ∧ Q (.fz (.str t.d.py.shown))
theorem g_repr {K : PySem.W.Frag} : Op1 K (fun x H Q => rRepr K [x] H Q) reprG := by
  intro H ow n x t Q Qv rx ⟨h1, h2, q⟩ k
  exact ⟨x, _, rfl, rx.rd.dp _ h1, D.pl_shaped h1 (Nat.le_refl _), h2.1, h2.2, k _ _ H ow Stp.refl (Tq.fz_.mpr (.str _)) q⟩
end QV

set_option Elab.async false
set_option linter.all false
set_option maxRecDepth 100000
set_option maxHeartbeats 2000000
namespace QV
open PySem PySem.Spec PyProof.Rows L2

theorem hu65 {A : Around} {k : Nat} (hr : Room k A) : A.units + 65 < cLine := by have := hr.un; omega
theorem hu66 {A : Around} {k : Nat} (hr : Room k A) : A.units + 66 < cLine := by have := hr.un; omega
theorem bt_len : bootBuiltins "len" = some (.builtin "len") := by decide +kernel
theorem bt_abs : bootBuiltins "abs" = some (.builtin "abs") := by decide +kernel
theorem bt_sum : bootBuiltins "sum" = some (.builtin "sum") := by decide +kernel
theorem bt_all : bootBuiltins "all" = some (.builtin "all") := by decide +kernel
theorem bt_any : bootBuiltins "any" = some (.builtin "any") := by decide +kernel
theorem bt_min : bootBuiltins "min" = some (.builtin "min") := by decide +kernel
theorem bt_repr : bootBuiltins "repr" = some (.builtin "repr") := by decide +kernel
theorem bt_list : bootBuiltins "list" = some (.type "list") := by decide +kernel
theorem bt_tuple : bootBuiltins "tuple" = some (.type "tuple") := by decide +kernel
theorem bt_int : bootBuiltins "int" = some (.type "int") := by decide +kernel
theorem bt_str : bootBuiltins "str" = some (.type "str") := by decide +kernel
def DefAt (K : PySem.W.Frag) (mg : Str → Option Value) (x : Str) (st : Stmt) (ps : List Str) : Prop := ∃ f fd, Fun K x x st f fd ∧ mg x = some (.ref f) ∧ Binds K fd ps []
def Callee (P : Program) (w : World) (K : PySem.W.Frag) (mg : Str → Option Value) (base : Heap) (k : Nat) (x : Str) (ps : List Str) (io : List Nat) (spec : SemF) : Prop := ∃ f fd, QFn P w K mg base k f fd ps io spec ∧ mg x = some (.ref f) ∧ PySem.W.keepIn K (.ref f) = true ∧ Binds K fd ps []
section
variable {P : Program} {w : World} {K : PySem.W.Frag} {mg : Str → Option Value} {base : Heap}
theorem callee_of {k : Nat} {x : Str} {st : Stmt} {N ps : List Str} {io : List Nat} {spec : SemF} (Df : DefAt K mg x st ps) (S : FnScope N ps (defScope st)) (hio : (io.all fun i => decide (i < ps.length)) = true) (hpN : ps.length ≤ N.length)
    (hb : ∀ (f : Addr) (cdv : Value) (A : Around) (outer : List PySem.Env) (s : Shared) (H : Hp) (E : XK) (W : WX), Room k (A.deeper (envOfC x (defScope st) s.heap.objs.size f cdv)) → A.guards = some [] → L2.Takes (cxOf (L2.CX P w) P w K mg base N x (defScope st) f cdv A outer s H E) W →
      PassesOwn (model P w) (A.deeper (envOfC x (defScope st) s.heap.objs.size f cdv)) (envOfC x (defScope st) s.heap.objs.size f cdv) (cxOf (L2.CX P w) P w K mg base N x (defScope st) f cdv A outer s H E).xe →
      ∃ q, QSs (cxOf (L2.CX P w) P w K mg base N x (defScope st) f cdv A outer s H E) W io (defBody st) q ∧ ∀ args Q E, args.length = ps.length → spec args Q E → q (EndsF io Q E) (env0 N.length args)) : Callee P w K mg base (k + 1) x ps io spec :=
  let ⟨f, fd, F, m, b⟩ := Df
  ⟨f, fd, qfn_of F S hio hpN (hb f), m, F.kp, b⟩
theorem Callee.imp {k : Nat} {x : Str} {ps : List Str} {io : List Nat} {spec spec' : SemF} (C : Callee P w K mg base k x ps io spec) (h : ∀ a Q E, spec' a Q E → spec a Q E) : Callee P w K mg base k x ps io spec' :=
  let ⟨f, fd, F, r⟩ := C
  ⟨f, fd, F.imp h, r⟩
theorem def_at {x : Str} {st : Stmt} {ps : List Str} {h : Heap} {f : Addr} {oc : Value} {od an : Option Addr} {osl : Array (Option Value)} {kV doc pm cdv ct : Value} (X : K.In h) (G : h.Ns mainGlobals mg) (a : PySem.W.nsIn K mainGlobals x = some (some (.ref f)))
    (l : K.lookup f = some ⟨oc, od, .func (PySem.W.fnOf x x (defArgs st) (defBody st) (defScope st) .none kV doc pm an cdv ct), osl⟩) (c : PySem.W.codeIn K cdv x = true) (k : PySem.W.keepIn K (.ref f) = true)
    (hb : ∀ (kV doc pm : Value) (an : Option Addr) (cdv ct : Value) (us : List Value), us.length = ps.length → bindArgs (PySem.W.fnOf x x (defArgs st) (defBody st) (defScope st) .none kV doc pm an cdv ct) ⟨us, []⟩ = pure (ps.zip us)) : DefAt K mg x st ps :=
  have F := fun_mk (x := x) (qual := x) (st := st) l c k
  ⟨f, _, F, PySem.W.mg_of X G a, F.binds hb⟩
end
section
variable {X : Cx} {W : WX} {M : List Nat} {j k : Nat} {ps : List Str} {io : List Nat} {spec : SemF} {ks : List (Option Nat)} {e : Expr} {es : List Expr} {qs : SemD} {x : Str} {p pos : Pos}
theorem q_callC (C : Callee X.prog X.w X.K X.mg X.base k x ps io spec) (tk : L2.Takes X W) (hr : Room k X.A) (hG : X.A.guards = some []) (hg : Gl X x)
    (ha : QA X W M ks (e :: es) qs) (cs : List Nat) (hio : io.Nodup := by decide) (hK : okK ks io cs = true := by decide) (hn : ks.length = ps.length := by rfl) (hdb : (x == ("__debug__" : Str)) = false := by decide) (he : starEach (e :: es) X.env = (false, eval e X.env) :: starEach es X.env := by rfl)
    (hpl : (backTo pos (starEach es X.env)).any (·.1) = false := by rfl) : QE X W (M ++ cs) (.Call (.Name x p) (e :: es) [] pos) (sCall spec ks cs qs) :=
  let ⟨_, _, F, hm, hk, hb⟩ := C
  q_call F tk hr hG hg hm hk hb ha cs hio hK hn hdb he hpl
end
end QV

set_option Elab.async false
set_option linter.all false
set_option maxRecDepth 100000
set_option maxHeartbeats 2000000
namespace QV
open PySem L2
theorem cmulR {i j : Int} (h1 : -(18446744073709551616) < j) (h2 : j < 18446744073709551616) : CMul i j := .inr ⟨by simpa using h1, by simpa using h2⟩
theorem cmulL {i j : Int} (h1 : -(18446744073709551616) < i) (h2 : i < 18446744073709551616) : CMul i j := .inl ⟨by simpa using h1, by simpa using h2⟩
theorem cdivS {i j : Int} (h1 : 0 < j) (h2 : j < 18446744073709551616) : CDivW i j := ⟨h1, by
  have h : j.natAbs.log2 < 64 := (Nat.log2_lt (by omega)).mpr (by omega)
  omega⟩
theorem cdivB {i j : Int} (h1 : 0 < j) (h2 : j < 10000000000000000000000) : CDivW i j := ⟨h1, by
  have h : j.natAbs.log2 < 74 := (Nat.log2_lt (by omega)).mpr (by omega)
  omega⟩
theorem ixN_of {n : Nat} {i : Int} (h0 : 0 ≤ i) (h1 : i < n) : ixN n i = some i.toNat := by
  unfold ixN
  rw [if_pos h0, if_pos h1]
theorem at_lt {α : Type} {ds : List α} {i : Int} (h0 : 0 ≤ i) (h1 : i < ds.length) : ∃ d, atI ds i = some d ∧ d ∈ ds := by
  unfold atI
  rw [ixN_of h0 h1]
  have h2 : i.toNat < ds.length := by omega
  exact ⟨ds[i.toNat], by simp [h2], List.getElem_mem h2⟩
theorem at_all {α : Type} {ds : List α} {i : Int} {C : α → Prop} {R : α → Prop} (h0 : 0 ≤ i) (h1 : i < ds.length) (hC : ∀ d ∈ ds, C d) (k : ∀ d, C d → R d) : ∃ d, atI ds i = some d ∧ R d := by
  obtain ⟨d, e, m⟩ := at_lt h0 h1
  exact ⟨d, e, k d (hC d m)⟩
theorem at_of {α : Type} {l : List α} {k : Nat} {a : α} (h : l[k]? = some a) : atI l (k : Int) = some a := by
  have hk : k < l.length := (List.getElem?_eq_some_iff.mp h).1
  unfold atI
  rw [ixN_of (by omega) (by omega)]
  simpa using h
theorem at_int {α : Type} {l : List α} {i : Int} {a : α} (h0 : 0 ≤ i) (h : l[i.toNat]? = some a) : atI l i = some a := by
  have := at_of h
  rwa [Int.toNat_of_nonneg h0] at this
def IsBag (t : T) : Prop := ∃ a b c : Int, ∃ ns : List Int, t = .ow .lst [.int a, .int b, .int c, .nd .lst (ns.map .int)] ∧ 0 ≤ a ∧ 0 ≤ b ∧ b < 2147483647 ∧ 0 ≤ c ∧ ∀ x, x ∈ ns → 0 ≤ x
def bagS : SemF := fun args Q E => ∃ ns : List Int, args = [.fz (.scr ns)] ∧ ns.length ≤ 63 ∧ ∀ t', IsBag t' → Q t' []
def alikeS : SemF := fun args Q E => ∃ d : D, args = [.fz d, .fz d] ∧ d.pl 64 = true ∧ shwD d ∧ Q (.fz (.bl true)) []
mutual
theorem eqD_self : ∀ (n : Nat) (d : D), d.pl n = true → eqD d d = true
  | _, .non, _ => rfl
  | _, .bl _, _ => by simp [eqD]
  | _, .int _, _ => by simp [eqD]
  | _, .str _, _ => by simp [eqD]
  | n, .scr _, h => by cases n <;> simp [D.pl] at h
  | 0, .nd _ _, h => by simp [D.pl] at h
  | n + 1, .nd .lst ds, h => by rw [eqD]; exact eqDs_self n ds (by simpa [D.pl] using h)
  | n + 1, .nd .tup ds, h => by rw [eqD]; exact eqDs_self n ds (by simpa [D.pl] using h)
  | n + 1, .nd (.dK _) ds, h => by simp [D.pl] at h
  | n + 1, .nd (.dT _) ds, h => by simp [D.pl] at h
  | n + 1, .nd (.lkT _ _) ds, h => by simp [D.pl] at h
  | n + 1, .nd (.lsA _) ds, h => by simp [D.pl] at h
  | n + 1, .nd (.ins _ _) ds, h => by simp [D.pl] at h
theorem eqDs_self : ∀ (n : Nat) (ds : List D), Dspl n ds = true → eqDs ds ds = true
  | _, [], _ => rfl
  | n, d :: ds, h => by
    have h' : D.pl n d = true ∧ Dspl n ds = true := by simpa [Dspl] using h
    rw [eqDs, eqD_self n d h'.1, eqDs_self n ds h'.2]
    rfl
end
end QV

set_option Elab.async false
set_option Elab.async false
set_option linter.all false
set_option maxRecDepth 100000
set_option maxHeartbeats 2000000
namespace QV
open PySem PySem.Spec PyProof.Rows L2
section
variable {P : Program} {w : World} {K : PySem.W.Frag} {mg mb : Str → Option Value} {k : Nat} {fa a : Addr} {p1 : Str} {sp : Sp} {st : Shared}
end
def lawS (n : Nat) : SemF := fun args Q E => ∃ ns : List Int, args = [.fz (.scr ns)] ∧ ns.length ≤ n ∧ Q (.fz (.bl true)) []
theorem say_law {K : PySem.W.Frag} {H : Hp} {a : Addr} {ns : List Int} {n : Nat} (hn : ns.length ≤ n) (h : SqL K H a (ns.map V.int)) : spQ K 1 [] (lawS n) [.ref a] H (fun v _ => v = .bl true) fun _ _ _ => False := by
  have eB : Bs H (fun _ => Lab.base) = H := by funext b; unfold Bs; exact if_pos rfl
  refine ⟨rfl, fun _ => .base, [.fz (.scr ns)], fun t _ => t = .fz (.bl true), fun _ _ => False, rfl, fun i t e => ?_, ⟨ns, rfl, hn, rfl⟩, fun v t H' ow' outs _ r _ _ q => ?_, fun _ _ _ _ _ _ _ _ _ z => z.elim⟩
  · rcases i with _ | i
    · cases e
      exact ⟨_, rfl, Tq.fz_.mpr (.scr (by rw [eB]; exact h))⟩
    · simp at e
  · subst q
    have e := Tq.rd r
    cases e
    rfl
end QV

set_option Elab.async false
set_option linter.all false
set_option maxRecDepth 100000
set_option maxHeartbeats 2000000
namespace QV
open PySem L2
section
variable {X : Cx} {W : WX} {M : List Nat} {e : Expr} {x : Str} {root : Option Nat} {pa : SemP} {q : SemE} {pos p p2 : Pos}
theorem q_glob {n : Int} (hg : Gl X x) (hm : ∃ t, X.mg x = some (.int n t)) (hd : (x == ("__debug__" : Str)) = false := by decide) : QE X W [] (.Name x pos) (sC (.int n)) :=
  let ⟨t, h⟩ := hm
  q_const (pe_glob (v := .int n) hg h ⟨t, rfl⟩ hd) fun _ => .int n
end
def tyN : D → Option String
  | .non => some "NoneType"
  | .bl _ => some "bool"
  | .int _ => some "int"
  | .str _ => some "str"
  | .nd .lst _ => some "list"
  | .nd .tup _ => some "tuple"
  | .nd (.dK _) _ => some "dict"
  | _ => none
theorem tyx {K : PySem.W.Frag} {H : Hp} {x : V} {d : D} {n : String} (r : Rp K H x d) (h : tyN d = some n) : TyX K H x (.type n) := by
  cases r with
  | non => cases h; exact .base .non
  | bl b => cases h; exact .base (.bl b)
  | int i => cases h; exact .base (.int i)
  | str s => cases h; exact .base (.str s)
  | scr _ => cases h
  | exc0 _ _ => cases h
  | exc1 _ _ _ => cases h
  | tup c _ _ =>
    cases h
    exact .base (.tup c)
  | @cell a dx k vs ds hn c _ =>
    cases k with
    | lst => cases h; exact .base (.lst c.at_)
    | tup => exact absurd rfl hn
    | dK ks => cases h; exact .base (.dK c.at_)
    | dT ks => cases h
    | lkT o ks => cases h
    | lsA b => cases h
    | ins C ks => cases h
def kTup : D → Option Bool
  | .nd .tup _ => some true
  | d => (tyN d).map fun _ => false
def kLst : D → Option Bool
  | .nd .lst _ => some true
  | d => (tyN d).map fun _ => false
def kInt : D → Option Bool
  | .bl _ => some true
  | .int _ => some true
  | d => (tyN d).map fun _ => false
def kBl : D → Option Bool
  | .bl _ => some true
  | d => (tyN d).map fun _ => false
def kStr : D → Option Bool
  | .str _ => some true
  | d => (tyN d).map fun _ => false
def KiOk (T : String) (g : D → Option Bool) : Prop := ∀ (K : PySem.W.Frag) (d : D) (b : Bool), g d = some b → ∃ n, tyN d = some n ∧ PySem.W.kitOne K (.type n) (.type T) = some b
theorem ki_tup : KiOk "tuple" kTup := fun K d b h => by
  cases d with
  | nd k ds => cases k <;> cases h <;> exact ⟨_, rfl, rfl⟩
  | _ => cases h <;> exact ⟨_, rfl, rfl⟩
theorem ki_lst : KiOk "list" kLst := fun K d b h => by
  cases d with
  | nd k ds => cases k <;> cases h <;> exact ⟨_, rfl, rfl⟩
  | _ => cases h <;> exact ⟨_, rfl, rfl⟩
theorem ki_int : KiOk "int" kInt := fun K d b h => by
  cases d with
  | nd k ds => cases k <;> cases h <;> exact ⟨_, rfl, rfl⟩
  | _ => cases h <;> exact ⟨_, rfl, rfl⟩
theorem ki_bl : KiOk "bool" kBl := fun K d b h => by
  cases d with
  | nd k ds => cases k <;> cases h <;> exact ⟨_, rfl, rfl⟩
  | _ => cases h <;> exact ⟨_, rfl, rfl⟩
theorem ki_str : KiOk "str" kStr := fun K d b h => by
  cases d with
  | nd k ds => cases k <;> cases h <;> exact ⟨_, rfl, rfl⟩
  | _ => cases h <;> exact ⟨_, rfl, rfl⟩
def isG (g : D → Option Bool) (t : T) (Q : T → Prop) : Prop := ∃ b, g t.d = some b ∧ Q (.fz (.bl b))
theorem bt_bool : bootBuiltins "bool" = some (.type "bool") := by decide +kernel
theorem bt_isinstance : bootBuiltins "isinstance" = some (.builtin "isinstance") := by decide +kernel
section
variable {X : Cx} {W : WX} {M : List Nat} {e : Expr} {y : Str} {root : Option Nat} {pa : SemP} {q : SemE} {pos p p2 : Pos} {T' : String} {g : D → Option Bool}
theorem q_isi (ho : KiOk T' g) (hg : Gl X "isinstance") (hm : X.mg "isinstance" = none) (hg2 : Gl X y) (hm2 : X.mg y = none) (hv2 : bootBuiltins y = some (.type T')) (ha : QP X W M root e pa) (hn2 : y ≠ "__name__" := by decide) (hd2 : (y == ("__debug__" : Str)) = false := by decide)
    (he : starEach [e, .Name y p2] X.env = (false, eval e X.env) :: starEach [.Name y p2] X.env := by rfl) (he2 : starEach [.Name y p2] X.env = (false, eval (.Name y p2) X.env) :: starEach [] X.env := by rfl) (hpl : (backTo pos (starEach [.Name y p2] X.env)).any (·.1) = false := by rfl) :
    QE X W M (.Call (.Name "isinstance" p) [e, .Name y p2] [] pos) (s1 pa (isG g)) :=
  ⟨PE_imp (pe_callB call_isi hg hm bt_isinstance (pa_cons ha.run (pa_cons (pe_bltn (v := .ty T') hg2 hm2 hv2 rfl hn2 hd2) pa_nil he2) he) (by decide) (by decide) he hpl) fun σ H Qv ⟨n, ow, env, Q, E, s, hq, k, x⟩ =>
    ⟨n, ow, env, _, E, s, hq, fun v t pt H' ow' env' y1 s' o r ⟨b, hb, z⟩ => by
      obtain ⟨nm, h1, h2⟩ := ho X.K _ _ hb
      exact ⟨v, .ty T', _, _, b, rfl, .ty T', tyx (r.ro s').rd h1, h2, k (.bl b) (.fz (.bl b)) H' ow' env' y1 s' o (Tq.fz_.mpr (.bl b)) z⟩, x⟩⟩
end
section
variable {K : PySem.W.Frag}
end
section
variable {X : Cx} {W : WX} {M : List Nat} {e : Expr} {root : Option Nat} {pa : SemP} {pos p : Pos}
end
section
variable {X : Cx} {W : WX} {M : List Nat} {e : Expr} {x : Str} {px : Pos}
end
end QV

set_option Elab.async false
set_option linter.all false
set_option maxRecDepth 100000
set_option maxHeartbeats 2000000
namespace QV
open PySem L2
structure Pr (io : Nat) (H : Hp) (ow : Ow) (H' : Hp) (ow' : Ow) : Prop where
  go : ∀ a o, H a = some o → (ow a = .fr ∨ ow a = .base ∨ ow a = .sl io) → H' a = some o ∧ ow' a = ow a
  tp : ∀ a vs, H a = some (.tup vs) → H' a = some (.tup vs)
instance {io : Nat} {H : Hp} {ow : Ow} {H' : Hp} {ow' : Ow} : CoeFun (Pr io H ow H' ow') (fun _ => ∀ a o, H a = some o → (ow a = .fr ∨ ow a = .base ∨ ow a = .sl io) → H' a = some o ∧ ow' a = ow a) := ⟨Pr.go⟩
theorem Pr.of {io n : Nat} {M : List Nat} {H H' : Hp} {ow ow' : Ow} (h : io ∉ M) (x : Stp M n H ow H' ow') : Pr io H ow H' ow' := ⟨fun a o e q => x a o e (by rcases q with q | q | q <;> rw [q] <;> first | trivial | exact h), x.tp⟩
theorem Pr.bs {io : Nat} {H H' : Hp} {ow ow' : Ow} (x : Pr io H ow H' ow') : Same (Bs H ow) (Bs H' ow') := bs_map (fun a o e q => by
  obtain ⟨h1, h2⟩ := x a o e (.inr (.inl q))
  exact ⟨h1, h2.trans q⟩) x.tp
structure ItM (io : Nat) (K : PySem.W.Frag) (H : Hp) (ow : Ow) (J : It) (ds : List D) : Prop where
  go : ∀ (i : Nat) (d : D) (H' : Hp) (ow' : Ow), Pr io H ow H' ow' → ds[i]? = some d → J.go i H'
  yld : ∀ (i : Nat) (d : D) (H' : Hp) (ow' : Ow) (x : V) (H2 : Hp), Pr io H ow H' ow' → ds[i]? = some d → J.yld i H' x H2 → ∃ ow2, Ext H' ow' H2 ow2 ∧ Rp K (Bs H2 ow2) x d
  stop : ∀ (H' : Hp) (ow' : Ow), Pr io H ow H' ow' → J.stop ds.length H'
  sz : ds.length ≤ sizeLine
def tIo (K : PySem.W.Frag) (W : WX) (M : List Nat) (io : Nat) (q : SemI) : TI := fun σ H R => ∃ (n : Nat) (ow : Ow) (env : Env) (Q : List D → Env → Prop) (E : XQ), StOk K H ow σ env ∧ q env Q E ∧
  (∀ (J : It) (ds : List D) (H' : Hp) (ow' : Ow) (env' : Env), Stp M n H ow H' ow' → StOk K H' ow' σ env' → Out M env env' → ItM io K H' ow' J ds → Q ds env' → R J H') ∧ Xk K W M σ H n ow env E
structure QIo (X : Cx) (W : WX) (M : List Nat) (io : Nat) (tg e : Expr) (q : SemI) : Prop where
  run : PI X tg e (tIo X.K W M io q)
theorem itm_list {K : PySem.W.Frag} {H : Hp} {ow : Ow} {io : Nat} {a : Addr} {vs : List V} {ds : List D} (c : H a = some (.lst vs)) (hz : vs.length ≤ sizeLine) (r : Rps K (Bs H ow) vs ds) (eo : ow a = .sl io) : ItM io K H ow (Itl K a) ds := by
  have st : ∀ {H' : Hp} {ow' : Ow}, Pr io H ow H' ow' → SqL K H' a vs := fun x => .inl (.inl (x a _ c (.inr (.inr eo))).1)
  refine ⟨fun i d H' ow' x e => ?_, fun i d H' ow' y H2 x e q => ?_, fun H' ow' x => ⟨vs, st x, Nat.le_of_eq r.len⟩, by rw [← r.len]; exact hz⟩
  · obtain ⟨v, e1, _⟩ := r.get e
    exact ⟨vs, v, st x, e1⟩
  · obtain ⟨rfl, hy⟩ := q
    obtain ⟨v, e1, r1⟩ := r.get e
    have ev := hy vs (st x)
    rw [e1] at ev
    cases ev
    exact ⟨ow', Ext.refl, r1.mono x.bs⟩
theorem itm_listF {K : PySem.W.Frag} {H : Hp} {ow : Ow} {io : Nat} {a : Addr} {vs : List V} {ds : List D} (c : SqL K (Bs H ow) a vs) (hz : vs.length ≤ sizeLine) (r : Rps K (Bs H ow) vs ds) : ItM io K H ow (Itl K a) ds := by
  have st : ∀ {H' : Hp} {ow' : Ow}, Pr io H ow H' ow' → SqL K H' a vs := fun x => (bs_same _ _).seq (x.bs.seq c)
  refine ⟨fun i d H' ow' x e => ?_, fun i d H' ow' y H2 x e q => ?_, fun H' ow' x => ⟨vs, st x, Nat.le_of_eq r.len⟩, by rw [← r.len]; exact hz⟩
  · obtain ⟨v, e1, _⟩ := r.get e
    exact ⟨vs, v, st x, e1⟩
  · obtain ⟨rfl, hy⟩ := q
    obtain ⟨v, e1, r1⟩ := r.get e
    have ev := hy vs (st x)
    rw [e1] at ev
    cases ev
    exact ⟨ow', Ext.refl, r1.mono x.bs⟩
def iOwn (i : Nat) : SemI := fun env Q _ => match env[i]? with
  | some (some (.ow .lst ds)) => Q ds env
  | some (some (.fz (.nd .lst ds))) => Q ds env
  | _ => False
theorem i_own {X : Cx} {W : WX} {tg : Expr} {x : Str} {px : Pos} (i : Nat) (hN : X.N[i]? = some x := by rfl) (hv : Vis X.env.scope x := by first | exact Or.inl rfl | exact Or.inr (Or.inl rfl) | exact Or.inr (Or.inr rfl)) (hd : (x == ("__debug__" : Str)) = false := by decide)
    (hcd : (x == ("__classdict__" : Str)) = false := by decide) : QIo X W [] i tg (.Name x px) (iOwn i) :=
  ⟨PI_imp (pi_list (pe_var (i := i) hN hv hd hcd)) fun σ H R ⟨n, ow, env, Q, E, s, hq, k, xx⟩ => by
    unfold iOwn at hq
    split at hq
    · rename_i ds e
      obtain ⟨a, vs, e1, c, hz, r, eo⟩ := own_at s e
      exact ⟨.ref a, e1, a, rfl, ⟨vs, .inl (.inl c)⟩, k _ _ H ow env Stp.refl s Out.refl (itm_list c hz r eo) hq⟩
    · rename_i ds e
      obtain ⟨v, e1, r0⟩ := s.at_ i _ e
      obtain ⟨a, vs, rfl, c, hz, r⟩ := fz_lst r0
      exact ⟨.ref a, e1, a, rfl, ⟨vs, (bs_same _ _).seq c⟩, k _ _ H ow env Stp.refl s Out.refl (itm_listF c hz r) hq⟩
    · exact hq.elim⟩
theorem lcO_run {io : Nat} {K : PySem.W.Frag} {W : WX} {Mi Mt Me SS vs : List Nat} {qi : SemI} {g : SemG} {t : SemT} {q : SemE} (hso : io ∉ Mi ++ (Mt ++ Me)) (hs : ∀ i ∈ SS, i ∈ vs) (hv : ∀ i ∈ vs, i ∉ Mt ++ Me) {σ : L2.St} {H : Hp} {Qv : VK} (h : tQ K W (Mi ++ (Mt ++ Me)) (sLc qi g t q vs) σ H Qv) :
    tLc (tIo K W Mi io qi) (tG K SS g) (tT K W0 Mt t) (tQ K W0 Me q) vs σ H Qv := by
  obtain ⟨n, ow, env, Q, E, s, hq, k, x⟩ := h
  refine ⟨n, ow, env, _, E, s, hq, fun J ds H1 ow1 env1 y1 s1 o1 J1 hI => ?_, fun r d H' ow' env' y s' o => x r d H' ow' env' (y.mono subl (Nat.le_refl _)) s' (o.mono subl)⟩
  obtain ⟨I, i0, it, ie⟩ := hI.ex
  intro D hD
  have key : ∀ {H' : Hp} {ow' : Ow}, Stp (Mi ++ (Mt ++ Me)) n H1 ow1 H' ow' → Stp (Mi ++ (Mt ++ Me)) n H ow H' ow' := fun y => y1.trans y subl (fun _ h => h) (Nat.le_refl _) (Nat.le_refl _)
  refine ⟨fun j m H' => m = ds.length - j ∧ j ≤ ds.length ∧ ∃ ow' env' acc us, Stp (Mi ++ (Mt ++ Me)) n H1 ow1 H' ow' ∧ StOk K H' ow' σ env' ∧ Out (Mi ++ (Mt ++ Me)) env1 env' ∧ H' D = some (.lst us) ∧ ow' D = .tm n ∧ Rps K (Bs H' ow') us acc ∧ us.length ≤ j ∧ I j acc env',
    ⟨ds.length, by simp, Nat.zero_le _, Ow.put ow1 D (.tm n), env1, [], [], Stp.new hD, s1.stp0 (n := 0) (Stp.new hD), Out.refl, upd_same, put_same, .nil, Nat.le_refl _, i0⟩, ?_⟩
  rintro j m H' ⟨rfl, hj, ow', env', acc, us, y', s', o', hDl, hDo, hr, hl, ij⟩
  by_cases hlt : j < ds.length
  · have hd : ds[j]? = some ds[j] := by simp [hlt]
    refine .inr ⟨J1.go j _ H' ow' (Pr.of hso y') hd, fun H5 => ∃ ow5 env5 acc5 us5, Stp (Mi ++ (Mt ++ Me)) n H1 ow1 H5 ow5 ∧ StOk K H5 ow5 σ env5 ∧ Out (Mi ++ (Mt ++ Me)) env1 env5 ∧ H5 D = some (.lst us5) ∧ ow5 D = .tm n ∧ Rps K (Bs H5 ow5) us5 acc5 ∧ us5.length ≤ j + 1 ∧ I (j + 1) acc5 env5,
      fun H5 ⟨ow5, env5, acc5, us5, q5⟩ => ⟨ds.length - (j + 1), by omega, rfl, hlt, ow5, env5, acc5, us5, q5⟩, fun xv H2 yl => ?_⟩
    obtain ⟨ow2, ex, rx⟩ := J1.yld j _ H' ow' xv H2 (Pr.of hso y') hd yl
    have y2 : Stp (Mi ++ (Mt ++ Me)) n H' ow' H2 ow2 := ex.stp
    have s2 : StOk K H2 ow2 σ env' := s'.stp0 (n := 0) ex.stp
    refine ⟨ow2, wipeE env' vs, _, _, s2.wipe, rx, it j _ acc env' hd ij, fun σ3 env3 tc oT s3 z3 => ?_⟩
    refine ⟨wipe_tch tc hs, n + 1, ow2, env3, _, noX, s3, z3, fun b H3 ow3 env4 y3 s4 o4 z4 => ?_, xk0⟩
    have hD2 := (ex D _ hDl)
    have hD3 := y3 D _ hD2.1 (by rw [hD2.2, hDo]; exact Nat.lt_succ_self n)
    have hDo3 : ow3 D = .tm n := by rw [hD3.2, hD2.2, hDo]
    have same3 : Same (Bs H' ow') (Bs H3 ow3) := fun a o e => y3.bs a o (y2.bs a o e)
    have y23 : Stp (Mi ++ (Mt ++ Me)) n H' ow' H3 ow3 := y2.trans y3 (fun _ h => h) mem3.2.1 (Nat.le_refl _) (Nat.le_succ _)
    have outs : ∀ {e5 : Env} {H5 : Hp} {ow5 : Ow}, Out (Mt ++ Me) env3 e5 → StOk K H5 ow5 σ3 e5 → Out (Mi ++ (Mt ++ Me)) env1 (rstE env' vs e5) := fun {e5 H5 ow5} oo ss => by
      refine ⟨?_, fun i hi => ?_⟩
      · rw [rstE_len, ss.len, tc.len, wipe_length, ← s'.len, o'.len]
      · rw [← o'.eq i hi]
        by_cases hiv : i ∈ vs
        · by_cases hil : i < env'.length
          · have : ∀ {vs : List Nat}, i ∈ vs → (rstE env' vs e5)[i]? = some ((env'[i]?).getD none) := fun {vs} hm => by
              induction vs with
              | nil => simp at hm
              | cons v vs ih =>
                unfold rstE
                by_cases hv2 : v = i
                · subst hv2
                  exact List.getElem?_set_self (by rw [rstE_len, ss.len, tc.len, wipe_length, ← s'.len]; exact hil)
                · rw [List.getElem?_set_ne hv2]
                  exact ih ((List.mem_cons.mp hm).resolve_left fun z => hv2 z.symm)
            rw [this hiv]
            have e : env'[i]? = some env'[i] := by simp [hil]
            rw [e]
            rfl
          · rw [List.getElem?_eq_none (by rw [rstE_len, ss.len, tc.len, wipe_length, ← s'.len]; omega), List.getElem?_eq_none (by omega)]
        · rw [rstE_out hiv, oo.eq i fun z => hi (subr i z)]
          rw [oT.eq i fun z => hiv (hs i z)]
          exact wipeE_out hiv
    have carV : ∀ {H5 : Hp} {ow5 : Ow}, Stp (Mt ++ Me) (n + 1) H2 ow2 H5 ow5 → ∀ i ∈ vs, Car H2 H5 ow2 ow5 (.sl i) (.sl i) := fun {H5 ow5} yy i hi => yy.car (l := .sl i) (hv i hi)
    cases b with
    | false =>
      refine iteF ?_
      have y3' : Stp (Mt ++ Me) (n + 1) H2 ow2 H3 ow3 := y3.mono subl (Nat.le_refl _)
      exact ⟨ow3, _, acc, us, y'.trans y23 (fun _ h => h) (fun _ h => h) (Nat.le_refl _) (Nat.le_refl _), s2.rst s4 tc hs (carV y3'), outs (o4.mono subl) s4, hD3.1, hDo3, hr.mono same3, Nat.le_succ_of_le hl, z4.2 rfl⟩
    | true =>
      refine iteT ?_
      refine ⟨n + 1, ow3, env4, _, noX, s4, z4.1 rfl, fun v w H4 ow4 env5 y4 s5 o5 r4 z5 => ?_, xk0⟩
      split at z5
      · rename_i e
        have rv := Tq.fz_.mp r4
        have hD4 := y4 D _ hD3.1 (by rw [hDo3]; exact Nat.lt_succ_self n)
        have hDo4 : ow4 D = .tm n := by rw [hD4.2, hDo3]
        have same4 : Same (Bs H' ow') (Bs H4 ow4) := fun a o e => y4.bs a o (same3 a o e)
        have yu : Stp (Mt ++ Me) n H4 ow4 (upd H4 D (.lst (us ++ [v]))) ow4 := ⟨fun a o ea pa => by
          have ne : a ≠ D := fun z => by
            rw [z, hDo4] at pa
            exact absurd pa (Nat.lt_irrefl n)
          exact ⟨by rw [upd_ne ne]; exact ea, rfl⟩, fun a ws ea => by
          have ne : a ≠ D := fun z => by rw [z, hD4.1] at ea; cases ea
          rw [upd_ne ne]; exact ea⟩
        have y34 : Stp (Mt ++ Me) (n + 1) H2 ow2 H4 ow4 := y3.trans y4 subl subr (Nat.le_refl _) (Nat.le_refl _)
        have y25 : Stp (Mt ++ Me) n H2 ow2 (upd H4 D (.lst (us ++ [v]))) ow4 := y34.trans yu (fun _ h => h) (fun _ h => h) (Nat.le_succ _) (Nat.le_refl _)
        have s5u : StOk K (upd H4 D (.lst (us ++ [v]))) ow4 σ3 env5 := ⟨s5.len, fun i t e => by
          obtain ⟨w, e1, r⟩ := s5.at_ i t e
          refine ⟨w, e1, Car.tq ⟨yu.bs, fun a o ea eo => ?_⟩ r⟩
          have ne : a ≠ D := fun z => by
            rw [z, hDo4] at eo
            cases eo
          exact ⟨by rw [upd_ne ne]; exact ea, eo⟩⟩
        have carU : ∀ i ∈ vs, Car H2 (upd H4 D (.lst (us ++ [v]))) ow2 ow4 (.sl i) (.sl i) := fun i hi => ⟨y25.bs, fun a o ea eo => by
          obtain ⟨e1, e2⟩ := y34 a o ea (by rw [eo]; exact hv i hi)
          have ne : a ≠ D := fun z => by
            rw [z, hDo4] at e2
            rw [z] at eo
            rw [eo] at e2
            cases e2
          exact ⟨by rw [upd_ne ne]; exact e1, e2.trans eo⟩⟩
        have yall : Stp (Mi ++ (Mt ++ Me)) n H1 ow1 (upd H4 D (.lst (us ++ [v]))) ow4 := (y'.trans y2 (fun _ h => h) (fun _ h => h) (Nat.le_refl _) (Nat.le_refl _)).trans y25 (fun _ h => h) subr (Nat.le_refl _) (Nat.le_refl _)
        refine ⟨us, hD4.1, Nat.lt_of_le_of_lt hl (Nat.lt_of_lt_of_le hlt J1.sz), ow4, _, acc ++ [e], us ++ [v], yall, s2.rst s5u tc hs carU, outs (o4.trans o5 subl subr) s5, upd_same, hDo4, ?_, by rw [List.length_append]; simpa using hl, z5⟩
        exact (hr.mono fun a o e => yu.bs a o (same4 a o e)).app (.cons (rv.mono yu.bs) .nil)
      · exact z5.elim
  · have e : j = ds.length := by omega
    subst e
    exact .inl ⟨J1.stop H' ow' (Pr.of hso y'), k (.ref D) (.ow .lst acc) H' ow' env' (key y') s' (o1.trans o' subl (fun _ h => h)) ⟨_, .ow (dx := D) ⟨hDl, Nat.le_trans hl J1.sz, trivial⟩ (fun b fb => by
      have eb : b = D := fb
      rw [eb]; exact hDo) hr⟩ (ie acc env' ij)⟩
section
variable {X : Cx} {W : WX} {io : Nat} {Mi Mt Me M IO SS : List Nat} {elt tg iter e : Expr} {ifs : List Expr} {scope : Scope} {own : List (Str × Nat)} {pos spos py : Pos} {qi : SemI} {g : SemG} {t : SemT} {q : SemE} {y : Str} {i : Nat}
theorem q_lcO (hc : X.calm = true) (hN : X.N.Nodup) (hi : QIo X W Mi io tg iter qi) (ok : BlkOk X.N X.env.scope scope own)
    (hg : ∀ (s : Shared) (H : Hp) (C : Addr) (cl : List (Str × Addr)) (fp : List Addr), QG (X.blk s H scope (compEnvC scope cl C X.env) fp) SS tg g) (ht : ∀ (s : Shared) (H : Hp) (C : Addr) (cl : List (Str × Addr)) (fp : List Addr), QTs (X.blk s H scope (compEnvC scope cl C X.env) fp) W0 Mt ifs t)
    (he : ∀ (s : Shared) (H : Hp) (C : Addr) (cl : List (Str × Addr)) (fp : List Addr), QE (X.blk s H scope (compEnvC scope cl C X.env) fp) W0 Me elt q) (hso : io ∉ Mi ++ (Mt ++ Me) := by decide) (hs : ∀ i ∈ SS, i ∈ own.map (·.2) := by decide) (hv : ∀ i ∈ own.map (·.2), i ∉ Mt ++ Me := by decide)
    (hf : ∀ x, foldedSetIterable iter X.env x = pure x := by intro _; rfl) : QE X W (Mi ++ (Mt ++ Me)) (.ListComp elt [⟨tg, iter, ifs, 0⟩] scope pos) (sLc qi g t q (own.map (·.2))) :=
  ⟨PE_imp (pe_lc hc hN hi.run ok (fun s H C cl fp => (hg s H C cl fp).run) (fun s H C cl fp => (ht s H C cl fp).run) (fun s H C cl fp => (he s H C cl fp).run) hf) fun _ _ _ h => lcO_run hso hs hv h⟩
end
end QV

set_option Elab.async false
set_option linter.all false
set_option maxRecDepth 100000
set_option maxHeartbeats 2000000
namespace QV
open PySem L2
mutual
def shrt : D → Bool
  | .non => true
  | .bl _ => true
  | .int i => decide (i.natAbs < 10000000000000000000000000000000000000000)
  | .str x => x.cps.toList.all fun c => decide (c < 16 ^ 8)
  | .nd .lst ds => shrts ds
  | .nd .tup ds => shrts ds
  | _ => true
def shrts : List D → Bool
  | [] => true
  | d :: ds => shrt d && shrts ds
end
mutual
def szD : D → Nat
  | .int _ => 140
  | .str x => x.cps.size
  | .nd .lst ds => szDs ds
  | .nd .tup ds => szDs ds
  | _ => 0
def szDs : List D → Nat
  | [] => 0
  | d :: ds => szD d + 1 + szDs ds
end
theorem log2_40 {i : Int} (h : i.natAbs < 10000000000000000000000000000000000000000) : i.natAbs.log2 < 133 := by
  rcases Nat.eq_zero_or_pos i.natAbs with z | z
  · rw [z]; decide
  · exact (Nat.log2_lt (by omega)).mpr (by omega)
mutual
theorem shrt_ok : ∀ d : D, shrt d = true → d.py.leavesShort 41 = true ∧ d.py.showable = true ∧ d.py.weight ≤ szD d
  | .non, _ => ⟨rfl, rfl, by simp [D.py, PyData.weight]⟩
  | .bl _, _ => ⟨rfl, rfl, by simp [D.py, PyData.weight]⟩
  | .int i, h => by
    have h' : i.natAbs < 10000000000000000000000000000000000000000 := by simpa [shrt] using h
    refine ⟨?_, ?_, ?_⟩
    · simp only [D.py, PyData.leavesShort, decide_eq_true_eq]
      have e := int_text_length_le10 (k := 40) (by decide) (show i.natAbs < 10 ^ 40 by omega)
      have e2 : (PyData.int i).shown.length = (toString i).length := by
        rw [PyData.shown_int]
        exact ofString_length _
      rw [e2]
      exact e
    · simp only [D.py, PyData.showable, decide_eq_true_eq]
      have := log2_40 h'
      omega
    · simp only [D.py, PyData.weight, szD]
      have := log2_40 h'
      split <;> omega
  | .str x, h => by
    refine ⟨by simpa [D.py, PyData.leavesShort, shrt] using h, rfl, by simp [D.py, PyData.weight, szD]⟩
  | .scr _, _ => ⟨rfl, rfl, by simp [D.py, PyData.weight]⟩
  | .exc _ _ _ _ _, _ => ⟨rfl, rfl, by simp [D.py, PyData.weight]⟩
  | .nd .lst ds, h => by
    obtain ⟨a, b, c⟩ := shrts_ok ds (by simpa [shrt] using h)
    exact ⟨by simpa [D.py, PyData.leavesShort] using a, by simpa [D.py, PyData.showable] using b, by simpa [D.py, PyData.weight, szD] using c⟩
  | .nd .tup ds, h => by
    obtain ⟨a, b, c⟩ := shrts_ok ds (by simpa [shrt] using h)
    exact ⟨by simpa [D.py, PyData.leavesShort] using a, by simpa [D.py, PyData.showable] using b, by simpa [D.py, PyData.weight, szD] using c⟩
  | .nd (.dK _) ds, _ => ⟨rfl, rfl, by simp [D.py, PyData.weight]⟩
  | .nd (.dT _) ds, _ => ⟨rfl, rfl, by simp [D.py, PyData.weight]⟩
  | .nd (.lkT _ _) ds, _ => ⟨rfl, rfl, by simp [D.py, PyData.weight]⟩
  | .nd (.lsA _) ds, _ => ⟨rfl, rfl, by simp [D.py, PyData.weight]⟩
  | .nd (.ins _ _) ds, _ => ⟨rfl, rfl, by simp [D.py, PyData.weight]⟩
theorem shrts_ok : ∀ ds : List D, shrts ds = true → PyData.leavesShortAll 41 (Dspy ds) = true ∧ PyData.showableAll (Dspy ds) = true ∧ PyData.weightAll (Dspy ds) ≤ szDs ds
  | [], _ => ⟨rfl, rfl, by simp [Dspy, PyData.weightAll]⟩
  | d :: ds, h => by
    have h' : shrt d = true ∧ shrts ds = true := by simpa [shrts] using h
    obtain ⟨a, b, c⟩ := shrt_ok d h'.1
    obtain ⟨a', b', c'⟩ := shrts_ok ds h'.2
    exact ⟨by simp [Dspy, PyData.leavesShortAll, a, a'], by simp [Dspy, PyData.showableAll, b, b'], by simp only [Dspy, PyData.weightAll, szDs]; omega⟩
end
theorem shw_of {d : D} (h : shrt d = true) (hz : szD d ≤ 262144) : shwD d := by
  obtain ⟨a, b, c⟩ := shrt_ok d h
  refine ⟨b, Nat.le_trans (PyData.shown_le 41 (by decide) _ a) ?_⟩
  have h1 : (41 + 2) * d.py.weight + 41 ≤ 43 * 262144 + 41 := by omega
  exact Nat.le_trans h1 (by rw [sizeLine_eq]; decide)
theorem shrts_all : ∀ {ds : List D}, (∀ d, d ∈ ds → shrt d = true) → shrts ds = true
  | [], _ => rfl
  | d :: ds, h => by simp [shrts, h d (by simp), shrts_all (ds := ds) fun e he => h e (by simp [he])]
theorem szDs_le {k : Nat} : ∀ {ds : List D}, (∀ d, d ∈ ds → szD d ≤ k) → szDs ds ≤ ds.length * (k + 1)
  | [], _ => by simp [szDs]
  | d :: ds, h => by
    have h1 := h d (by simp)
    have h2 := szDs_le (ds := ds) fun e he => h e (by simp [he])
    simp only [szDs, List.length_cons, Nat.succ_mul]
    omega
theorem pls_all {n : Nat} : ∀ {ds : List D}, (∀ d, d ∈ ds → d.pl n = true) → Dspl n ds = true
  | [], _ => rfl
  | d :: ds, h => by simp [Dspl, h d (by simp), pls_all (ds := ds) fun e he => h e (by simp [he])]
theorem pl_lst {n : Nat} {ds : List D} (h : ∀ d, d ∈ ds → d.pl n = true) : (D.nd .lst ds).pl (n + 1) = true := by rw [D.pl]; exact pls_all h
end QV

set_option Elab.async false
set_option linter.all false
set_option maxRecDepth 100000
set_option maxHeartbeats 2000000
namespace QV
open PySem PySem.Spec PyProof.Rows L2
section
variable {X : Cx} {e : Expr} {es : List Expr} {ta : TA} {b : Str} {S : Addr} {p1 p2 pos : Pos}
theorem pe_binit {pl : Sem Bool} (hg : Gl X b) (hm : X.mg b = some (.ref S)) (h1 : PySem.W.specialIn X.K (.ref S) "__getattribute__" = some (some (.builtin "type.__getattribute__"))) (h2 : PySem.W.readsIn X.K S (.type "type") = true)
    (h3 : PySem.W.findCls X.K (.ref S) (.type "type") "__init__" = some (.val (.builtin "ValueError.__init__"))) (ha : PA X (e :: es) ta)
    (hc : eval (.Call (.Attribute (.Name b p1) "__init__" p2) (e :: es) [] pos) X.env = (do
      let own ← eval (.Name b p1) X.env
      standAt p2.atName
      let (init, self) ← holding [own] (getMethod own "__init__" pl)
      callWith pos init self (backTo pos (starEach (e :: es) X.env)) (backToKw pos (keywordEach [] X.env))) := by rfl)
    (hd : (b == ("__debug__" : Str)) = false := by decide) (he : starEach (e :: es) X.env = (false, eval e X.env) :: starEach es X.env := by rfl) (hpl : (backTo pos (starEach es X.env)).any (·.1) = false := by rfl) :
    PE X (.Call (.Attribute (.Name b p1) "__init__" p2) (e :: es) [] pos) (tVeI X.K ta) := by
  constructor
  intro pins s σ H Q I h
  refine PySem.W.methodCall_KW (ld_glob I hg hm ?_ hd) hc
  refine PySem.W.method_cls I.kIn h1 (PySem.W.cls_value I.kIn h2 h3 (by decide +kernel) ?_)
  show wpAny _ _ (callWith pos (Value.builtin "ValueError.__init__") [] (backTo pos (starEach (e :: es) X.env)) []) _ _ _
  refine PyProof.Rows.callWith_method1 (thn (ha.run pos pins _ σ H _ (I.tok _) h) fun us s1 ⟨vs, H1, J, rel, a, C, ws, ev, few, T, at0, q⟩ => ?_) he hpl
  cases ev
  cases rel with
  | cons ra rest =>
    cases (show _ = Value.ref a from ra)
    refine oinit_ok T J at0 ?_ fun s2 J2 => ⟨.non, H1, J2, rfl, q⟩
    have := Paired.length rest
    rw [sizeLine_eq]
    omega
end
section
variable {X : Cx}
end
def spIni (K : PySem.W.Frag) : Sp := fun vs H Q _ => ∃ a C, vs = [.ref a] ∧ OexC K C ∧ H a = some (exo a C none) ∧ Q .non H
structure Bare (X : Cx) (k : Nat) (x : Str) (C : Addr) : Prop where
  mg : X.mg x = some (.ref C)
  ex : ∃ fI fd, OexC X.K C ∧ PySem.W.findIn X.K (.ref C) "__init__" = some (some (.ref fI)) ∧ PySem.W.typeIn X.K (.ref fI) = some (.type "function") ∧ FnOk X.prog X.w X.K X.mg X.base (L2.CX X.prog X.w) k fI fd ["self"] (spIni X.K) ∧ Binds X.K fd ["self"] []
def spIni1 (K : PySem.W.Frag) (f : Str) : Sp := fun vs H Q _ => ∃ a C y, vs = [.ref a, y] ∧ OexC K C ∧ H a = some (exo a C none) ∧ PySem.W.findIn K (.ref C) f = some none ∧ ∀ dx, H dx = none → dx ≠ a → Q .non (upd (upd H dx (exd dx [(f, y)])) a (exo a C (some dx)))
structure Bare1 (X : Cx) (k : Nat) (x : Str) (C : Addr) (f : Str) (ps : List Str) : Prop where
  mg : X.mg x = some (.ref C)
  no : PySem.W.findIn X.K (.ref C) f = some none
  ex : ∃ fI fd, OexC X.K C ∧ PySem.W.findIn X.K (.ref C) "__init__" = some (some (.ref fI)) ∧ PySem.W.typeIn X.K (.ref fI) = some (.type "function") ∧ FnOk X.prog X.w X.K X.mg X.base (L2.CX X.prog X.w) k fI fd ps (spIni1 X.K f) ∧ Binds X.K fd ps []
theorem del_two {H : Hp} {a d : Addr} {o1 o2 o3 o4 : HO} (h : H a = none) (ne : d ≠ a) : upd (del (upd (upd (upd H a o1) d o2) a o3) a) d o4 = upd H d o4 := by
  funext b
  rcases Classical.em (b = d) with z | z
  · subst z
    rw [upd_same, upd_same]
  · rw [upd_ne z, upd_ne z]
    rcases Classical.em (b = a) with y | y
    · subst y
      rw [del_same, h]
    · rw [del_ne y, upd_ne y, upd_ne z, upd_ne y]
theorem s_raise1 {X : Cx} {W : WX} {IO M : List Nat} {k : Nat} {x f : Str} {ps : List Str} {C : Addr} {e : Expr} {q : SemE} {p cpos pos : Pos} (B : Bare1 X k x C f ps) (tk : L2.Takes X W) (hc : X.calm = true) (room : Room (k + 1) X.A) (hg : Gl X x) (he : QE X W M e q)
    (hx : Passes (L2.CX X.prog X.w) X (fun _ _ _ => False)) (hdb : (x == ("__debug__" : Str)) = false := by decide) (hs : starEach [e] X.env = (false, eval e X.env) :: starEach [] X.env := by rfl) (hpl : (backTo cpos (starEach [] X.env)).any (·.1) = false := by rfl) :
    QS X W IO (.Raise (some (.Call (.Name x p) [e] [] cpos)) none pos) (fun D env => q env (fun t env1 => match t with
      | .fz d => D.ex ⟨C, [f], [d]⟩ env1
      | _ => False) D.ex) := by
  obtain ⟨hm, no, fI, fd, T, iC, tI, Fi, bnd⟩ := B
  refine ⟨PS_imp (ps_raise hc tk (pmk_oex T iC tI Fi room bnd .nil hx hg hm (a_cons he a_nil hs).run hdb hs hpl)) fun D σ H ⟨ow, env, De, s, hq, kk⟩ => ?_⟩
  refine tA_data (m := 0) (Q := fun ds env1 => match ds with | [d] => De.ex ⟨C, [f], [d]⟩ env1 | _ => False) rfl s (E := De.ex) ?_ kk.ex.xk ?_
  · unfold aCons
    refine cast (congrArg (fun z => q env z De.ex) ?_) hq
    funext t env1
    cases t <;> rfl
  · intro vs ds H1 ow1 env1 y s1 o l1 r z
    split at z
    · rename_i d
      match vs, l1 with
      | [v], _ =>
        refine ⟨show 1 ≤ 1000 by decide, fun a ha => ⟨a, C, v, rfl, T, upd_same, no, fun dx hdx ne => ?_⟩⟩
        have hn : H1 dx = none := (upd_ne ne).symm.trans hdx
        refine ⟨rfl, dx, [(f, v)], upd_same, ?_, hn, ?_⟩
        · rw [upd_ne ne, upd_same]
        · rw [del_two ha ne]
          have yn : Stp [] 0 H1 ow1 (upd H1 dx (.xd [(f, v)])) (Ow.put ow1 dx .base) := Stp.new hn
          exact kk.ex ⟨C, [f], [d]⟩ (some dx) σ _ _ env1 (y.fs.trans yn.fs) Ios.refl (s1.stp0 yn) ⟨[v], by rw [bs_of put_same]; exact upd_same, rfl, r.mono yn.bs⟩ z
    · exact z.elim
theorem passes0 {X : Cx} : Passes (L2.CX X.prog X.w) X (fun _ _ _ => False) := fun _ _ _ _ _ _ _ h => by
  obtain ⟨_, _, _, _, _, _, _, _, _, _, _, _, z⟩ := h
  exact z.elim
end QV

set_option Elab.async false
set_option linter.all false
set_option maxRecDepth 100000
set_option maxHeartbeats 2000000
namespace PySem.W
open PySem PySem.Spec PySem.Calls PyProof.Rows
section
variable {prog : Program} {w : World} {A : Around} {E : Value → Shared → Prop} {s : Shared} {K : Frag} {x D : Addr} {ox : Obj} {od : Option Obj}
theorem qv_findData {C : Addr} {name : Str} {a g : Value} (hc : (clsIn K C).isSome = true) (ha : findIn K (.ref C) name = some (some a)) (hg : specialIn K a "__get__" = some (some g)) (ht : takesIn K a = some true) : findObj K C od name = some (.bind g a) := by
  obtain ⟨cd, hc⟩ := Option.isSome_iff_exists.mp hc
  unfold findObj
  rw [hc, Option.bind_some, ha, Option.bind_some]
  simp [hg, ht]
theorem qv_class {Q : Option Value → Shared → Prop} (hga : findIn K (.ref D) "__getattribute__" = some (some (.builtin "BaseException.__getattribute__"))) (hgt : findIn K (.ref D) "__getattr__" = some none) (hsub : subIn K (.ref D) (.type "BaseException") = some true)
    (hdct : hasDictIn K D = true) (ha : findIn K (.ref D) "__class__" = some (some (.builtin "object.__class__")))
    (hn : specialIn K (.builtin "object.__class__") "__get__" = some (some (.builtin "getset_descriptor.__get__"))) (htk : takesIn K (.builtin "object.__class__") = some true) (hm : mroIn K D (.type "object") = some true)
    (X : K.In s.heap) (I : InstAt s.heap x ox D od) (h : Q (some (.ref D)) { s with toks := s.toks + 1 }) : wpAny (model prog w) A (getAttr? (.ref x) "__class__") Q E s := by
  have hf : findObj K D od "__class__" = some (.bind (.builtin "getset_descriptor.__get__") (.builtin "object.__class__")) := qv_findData (by obtain ⟨cd, hc, _⟩ := any_some hdct; rw [hc]; rfl) ha hn htk
  obtain ⟨hp, g, d, t, os⟩ := s
  have L0 := I.type (M := model prog w)
  have L1 := looks_findIn (M := model prog w) X hga
  have L2 := looks_findIn (M := model prog w) X hgt
  have L3 := looks_find (M := model prog w) X I hf
  have sub : Looks (model prog w) hp (isInstance (.ref x) (.type "BaseException")) true := L0.andThen (looks_subIn X hsub)
  have hx0 : (false && onTheHeap (Value.builtin "BaseException.__getattribute__")) = false := rfl
  have hx2 : (Value.builtin "BaseException.__getattribute__" == Value.builtin "object.__getattribute__") = false := by decide +kernel
  have hx1 : (onTheHeap (Value.ref D) && Value.builtin "BaseException.__getattribute__" == Value.builtin "object.__getattribute__") = false := by rw [hx2]; rfl
  unfold getAttr? getAttrBy? getAttrBy
  refine wpAny_bind (wpAny_mkText (wpAny_bind (wpAny_attempt (wpAny_holding (wpAny_bind (L0.at (wpAny_bind (L1.at ?_))))))))
  show wpAny _ _ (if (onTheHeap (Value.ref D) && Value.builtin "BaseException.__getattribute__" == Value.builtin "object.__getattribute__") = true then _ else _) _ _ _
  rw [hx1, if_neg Bool.false_ne_true]
  unfold getAttrByItsOwn hookBefore
  refine wpAny_bind ?_
  rw [if_pos (show onTheHeap (Value.ref D) = true from rfl)]
  refine L2.at ?_
  refine wpAny_bind (wpAny_attempt (wpAny_holding ?_))
  unfold callGetattribute
  rw [hx0, if_neg Bool.false_ne_true]
  unfold boundAndCalled
  rw [PySem.F.excAttr_ValueError.ga.bind (.ref x)]
  refine wpAny_bind (wpAny_pure ?_)
  show wpAny _ _ (call (.builtin "BaseException.__getattribute__") [.ref x, .str "__class__" t]) _ _ _
  refine wpAny_call (codeAny_call_builtin PySem.F.excAttr_ValueError.ga.plain PySem.F.entry_bexc_ga ?_)
  refine @check_slot (model prog w) _ _ ⟨hp, g, d, t + 1, os⟩ "BaseException.__getattribute__" "BaseException" "__getattribute__" (.ref x) [.str "__class__" t] [] _ (by decide +kernel) (by decide +kernel) sub (PySem.F.args_bexc_ga (.ref x) (.str "__class__" t)) ?_
  unfold Builtin.«object.__getattribute__»
  refine wpAny_bind (wpAny_of_eq (a := ((Value.ref x : Value), [Value.str "__class__" t])) (by first | rfl | (simp only [slotArgs]; rfl)) ?_)
  refine wpAny_bind (wpAny_pure (wpAny_bind (L0.at (wpAny_bind (L3.at ?_)))))
  show wpAny _ _ (holding [Value.builtin "object.__class__"] (call (.builtin "getset_descriptor.__get__") [.builtin "object.__class__", .ref x, .ref D]) >>= ret) _ _ _
  refine wpAny_bind (wpAny_holding (wpAny_call (class_get (s := ⟨hp, g, d, t + 1, os⟩) (ox := ox) (od := od) X I hm ?_)))
  refine wpAny_pure ?_
  show wpAny _ _ (handedOut (.ref D)) _ _ _
  rw [handedOut_of (v := .ref D) rfl]
  first
    | exact wpAny_pure (wpAny_pure h)
    | exact wpAny_pure h
    | exact wpAny_pure (wpAny_bind (wpAny_pure (wpAny_pure h)))
theorem qv_kitx (hga : findIn K (.ref D) "__getattribute__" = some (some (.builtin "BaseException.__getattribute__"))) (hgt : findIn K (.ref D) "__getattr__" = some none) (hsub : subIn K (.ref D) (.type "BaseException") = some true) (hdct : hasDictIn K D = true) (ha : findIn K (.ref D) "__class__" = some (some (.builtin "object.__class__")))
    (hn : specialIn K (.builtin "object.__class__") "__get__" = some (some (.builtin "getset_descriptor.__get__"))) (htk : takesIn K (.builtin "object.__class__") = some true) (hm : mroIn K D (.type "object") = some true) :
    KitX K (.ref x) (.ref D) (fun h => InstAt h x ox D od) where
  ty := fun _ _ _ I => I.type
  it := fun _ _ X _ => by
    obtain ⟨cdD, hcD, _⟩ := any_some hdct
    unfold clsIn at hcD
    split at hcD
    · rename_i c' d' cd' sl' ho
      intro A' Q' E' s' k q
      unfold isType loadHead
      exact wpAny_bind (wpAny_loadPart (k _ _ (X _ _ ho)) (wpAny_pure q))
    · cases hcD
  ne := fun h tp dd its n sl X htp => by
    obtain ⟨cdD, hcD, _⟩ := any_some hdct
    refine Bool.eq_false_iff.mpr fun q => ?_
    have e : D = tp := Value.ref.inj (beq_iff_eq.mp q)
    subst e
    unfold clsIn at hcD
    split at hcD
    · rename_i c' d' cd' sl' ho
      have z := (X _ _ ho).symm.trans htp
      cases z
    · cases hcD
  ca := fun X I k => qv_class hga hgt hsub hdct ha hn htk hm X I k
end
end PySem.W
namespace QV
open PySem PySem.Spec PyProof.Rows L2

structure Xt (K : PySem.W.Frag) (mg : Str → Option Value) (ca : Str → Addr) (ns ts cs fs : List Str) (isa : Str → Str → Bool) : Prop where
  mg : ∀ x, x ∈ ts ∨ x ∈ cs → mg x = some (.ref (ca x))
  exc : ∀ x, x ∈ ns → ExcC K (ca x)
  kit : ∀ x, x ∈ ns → ∀ y, y ∈ ts → PySem.W.kitOne K (.ref (ca x)) (.ref (ca y)) = some (isa x y)
  kitV : ∀ x, x ∈ ns → PySem.W.kitOne K (.ref (ca x)) (.type "ValueError") = some true
  exm : ∀ x, x ∈ ns → ∀ y, y ∈ cs → PySem.W.exmOne K (.ref (ca x)) (.ref (ca y)) = some (isa x y)
  no : ∀ x, x ∈ ns → ∀ f, f ∈ fs → PySem.W.findIn K (.ref (ca x)) f = some none
def Pn (X : Cx) (a C : Addr) (d : Option Addr) : Prop := ∃ oe : Obj, (a, oe) ∈ X.pn ∧ Zc (.ref C) d oe ∧ ∃ vs, oe.data = .fields vs
def excP (a C : Addr) (d : Option Addr) (t : T) (k : List Str → List D → Prop) : Prop := match t with
  | .fz (.exc a' C' d' ks ds) => a' = a ∧ C' = C ∧ d' = d ∧ k ks ds
  | _ => False
theorem inst_at {X : Cx} {a C : Addr} {d : Option Addr} {oe : Obj} {pins : List (Addr × Obj)} {σ : L2.St} {H : Hp} {s : Shared} (I : Inv X pins σ H s) (hp : (a, oe) ∈ X.pn) (hz : Zc (.ref C) d oe) (hf : ∃ vs, oe.data = .fields vs) (hd : ∀ dd, d = some dd → ∃ fs, H dd = some (.xd fs)) :
    ∃ od, PySem.W.InstAt s.heap a oe C od := by
  obtain ⟨hget, _⟩ := I.pin (a, oe) (List.mem_append.mpr (.inl hp))
  obtain ⟨vs, hv⟩ := hf
  cases d with
  | none =>
    refine ⟨none, hget, hz.1, ?_, ?_⟩
    · unfold PySem.W.notCls; rw [hv] <;> rfl
    · rw [hz.2] <;> trivial
  | some dd =>
    obtain ⟨fs, ea⟩ := hd dd rfl
    obtain ⟨mA, ⟨od, es, ep, ho, _⟩, _⟩ := (show ObjOk X.prog X.w H s.heap dd (.xd fs) from I.hok dd _ ea)
    refine ⟨some od, hget, hz.1, ?_, ?_⟩
    · unfold PySem.W.notCls; rw [hv] <;> rfl
    · rw [hz.2]; exact ho
def rIsP (K : PySem.W.Frag) (a C : Addr) (d : Option Addr) : List V → Hp → VK → Prop := fun xs H Q => ∃ (c : V) (cv : Value) (b : Bool), xs = [.ref a, c] ∧ (∀ u, RelV c u → u = cv) ∧ PySem.W.kitOne K (.ref C) cv = some b ∧ ExcC K C ∧ (∀ dd, d = some dd → ∃ fs, H dd = some (.xd fs)) ∧ Q (.bl b) H
theorem call_isP {X : Cx} {a C : Addr} {d : Option Addr} (P : Pn X a C d) : CallR X (.builtin "isinstance") (rIsP X.K a C d) := by
  intro pins s σ H xs us Q I r h
  obtain ⟨oe, hp, hz, hf⟩ := P
  obtain ⟨c, cv, b, rfl, hcv, e, G, hd, q⟩ := h
  cases r with
  | cons rx rr =>
    cases rr with
    | cons rt rr =>
      cases rr
      cases rx
      have ec := hcv _ rt
      subst ec
      obtain ⟨od, J⟩ := inst_at I hp hz hf hd
      exact PySem.W.kia_one (PySem.W.qv_kitx G.hg G.hk G.hs G.hd G.ha G.hn G.ht G.hm) I.kIn J e (fun z => nomatch z) fun tk => ⟨.bl b, H, I.kept (t' := tk) fun _ _ z => z, rfl, q⟩
section
variable {X : Cx} {W : WX} {M : List Nat} {a C : Addr} {d : Option Addr} {e ec : Expr} {root : Option Nat} {pa : SemP} {p pos cp : Pos} {ca : Str → Addr} {ns ts cs fs : List Str} {isa : Str → Str → Bool} {y f : Str}
theorem exc_rd {K : PySem.W.Frag} {H : Hp} {ow : Ow} {v : V} {a C : Addr} {d : Option Addr} {ks : List Str} {ds : List D} (r : Ro K H ow v (.fz (.exc a C d ks ds))) : v = .ref a ∧ (∀ dd, d = some dd → ∃ vs, H dd = some (.xd (ks.zip vs)) ∧ ks.length = vs.length ∧ Rps K (Bs H ow) vs ds) := by
  obtain ⟨l, r⟩ := r
  have r := Tq.fz_.mp r
  cases r with
  | exc0 => exact ⟨rfl, fun dd z => nomatch z⟩
  | exc1 h1 h2 h3 => exact ⟨rfl, fun dd z => by cases z; exact ⟨_, bs_same _ _ _ _ h1, h2, h3⟩⟩
theorem isP_run {r : List V → Hp → VK → Prop} {te : TE} {b : Str → Bool} {σ : L2.St} {H : Hp} {Qv : VK}
    (hq : tQ X.K W M (s1 pa fun t Q => excP a C d t fun _ _ => ∃ x, C = ca x ∧ x ∈ ns ∧ Q (.fz (.bl (b x)))) σ H Qv)
    (hr : ∀ H x, x ∈ ns → C = ca x → (∀ dd, d = some dd → ∃ fs, H dd = some (.xd fs)) → ∀ Qv : VK, (∀ H', (∀ a o, H a = some o → H' a = some o) → (∀ a, H' a ≠ H a → H a = none) → Qv (.bl (b x)) H') → te σ H fun c H2 => r [.ref a, c] H2 Qv) :
    tP X.K W M root pa σ H fun v H1 => te σ H1 fun c H2 => r [v, c] H2 Qv := by
  obtain ⟨n, ow, env, Q, E, s, hq, k, x⟩ := hq
  refine ⟨n, ow, env, _, E, s, hq, fun v t pt H' ow' env' y1 s' o rr z => ?_, x⟩
  dsimp only [excP] at z
  split at z
  · rename_i a' C' d' ks ds
    obtain ⟨rfl, rfl, rfl, nm, ec, hn, z⟩ := z
    obtain ⟨rfl, hd⟩ := exc_rd (rr.ro s')
    refine hr H' nm hn ec (fun dd e => let ⟨vs, h, _⟩ := hd dd e; ⟨_, h⟩) Qv fun H2 h1 h2 => ?_
    have y2 : Stp [] n H' ow' H2 ow' := ⟨fun b o e _ => ⟨h1 b o e, rfl⟩, fun b vs e => h1 b _ e⟩
    exact k (.bl (b nm)) (.fz (.bl (b nm))) H2 ow' env' (y1.trans y2 (fun _ h => h) nilsub (Nat.le_refl _) (Nat.le_refl _)) (s'.stp0 y2) o (Tq.fz_.mpr (.bl _)) z
  · exact z.elim
theorem q_isP (T : Xt X.K X.mg ca ns ts cs fs isa) (P : Pn X a C d) (hy : y ∈ ts) (hg : Gl X "isinstance") (hm : X.mg "isinstance" = none) (hgy : Gl X y) (ha : QP X W M root e pa) (hdy : (y == ("__debug__" : Str)) = false := by decide)
    (he : starEach [e, .Name y cp] X.env = (false, eval e X.env) :: starEach [.Name y cp] X.env := by rfl) (he2 : starEach [.Name y cp] X.env = (false, eval (.Name y cp) X.env) :: starEach [] X.env := by rfl) (hpl : (backTo pos (starEach [.Name y cp] X.env)).any (·.1) = false := by rfl) :
    QE X W M (.Call (.Name "isinstance" p) [e, .Name y cp] [] pos) (s1 pa fun t Q => excP a C d t fun _ _ => ∃ x, C = ca x ∧ x ∈ ns ∧ Q (.fz (.bl (isa x y)))) :=
  ⟨PE_imp (pe_callB (call_isP P) hg hm bt_isinstance (pa_cons ha.run (pa_cons (pe_glob (v := .ref (ca y)) hgy (T.mg y (.inl hy)) rfl hdy) pa_nil he2) he) (by decide) (by decide) he hpl) fun σ H Qv hq =>
    isP_run (te := tC (.ref (ca y))) (r := rIsP X.K a C d) (b := fun x => isa x y) hq fun H x hx ec hd Qv hk => ⟨.ref (ca y), .ref (ca y), isa x y, rfl, fun u h => h, by rw [ec]; exact T.kit x hx y hy, by rw [ec]; exact T.exc x hx, hd, hk H (fun _ _ h => h) fun _ h => (h rfl).elim⟩⟩
theorem q_isV (T : Xt X.K X.mg ca ns ts cs fs isa) (P : Pn X a C d) (hg : Gl X "isinstance") (hm : X.mg "isinstance" = none) (hgy : Gl X "ValueError") (hmy : X.mg "ValueError" = none) (ha : QP X W M root e pa)
    (he : starEach [e, .Name "ValueError" cp] X.env = (false, eval e X.env) :: starEach [.Name "ValueError" cp] X.env := by rfl) (he2 : starEach [.Name "ValueError" cp] X.env = (false, eval (.Name "ValueError" cp) X.env) :: starEach [] X.env := by rfl) (hpl : (backTo pos (starEach [.Name "ValueError" cp] X.env)).any (·.1) = false := by rfl) :
    QE X W M (.Call (.Name "isinstance" p) [e, .Name "ValueError" cp] [] pos) (s1 pa fun t Q => excP a C d t fun _ _ => ∃ x, C = ca x ∧ x ∈ ns ∧ Q (.fz (.bl true))) :=
  ⟨PE_imp (pe_callB (call_isP P) hg hm bt_isinstance (pa_cons ha.run (pa_cons (pe_bltn (v := .ty "ValueError") hgy hmy (by decide +kernel) rfl) pa_nil he2) he) (by decide) (by decide) he hpl) fun σ H Qv hq =>
    isP_run (te := tC (.ty "ValueError")) (r := rIsP X.K a C d) (b := fun _ => true) hq fun H x hx ec hd Qv hk => ⟨.ty "ValueError", .type "ValueError", true, rfl, fun u h => h, by rw [ec]; exact T.kitV x hx, by rw [ec]; exact T.exc x hx, hd, hk H (fun _ _ h => h) fun _ h => (h rfl).elim⟩⟩
inductive Cnames (X : Cx) (ts : List Str) : List Expr → List Str → Prop
  | nil : Cnames X ts [] []
  | cons {y : Str} {es : List Expr} {ys : List Str} (cp : Pos) : y ∈ ts → Gl X y → (y == ("__debug__" : Str)) = false → starEach (.Name y cp :: es) X.env = (false, eval (.Name y cp) X.env) :: starEach es X.env → Cnames X ts es ys → Cnames X ts (.Name y cp :: es) (y :: ys)
theorem zip_look {K : PySem.W.Frag} {B : Hp} {f : Str} {u : D} : ∀ {ks : List Str} {vs : List V} {ds : List D}, ks.length = vs.length → Rps K B vs ds → (ks.zip ds).lookup f = some u → ∃ v, (ks.zip vs).lookup f = some v ∧ Rp K B v u
  | [], _, _, _, _, h => by simp at h
  | _ :: _, _, _, l, .nil, h => by simp at l
  | k :: ks, v :: vs, d :: ds, l, .cons r s, h => by
    rw [List.zip_cons_cons, List.lookup_cons] at h ⊢
    split at h
    · cases h; exact ⟨v, rfl, r⟩
    · exact zip_look (by simpa using l) s h
def tXg (K : PySem.W.Frag) (a : Addr) (d : Option Addr) (C : Addr) (f : Str) (te : TE) : TE := fun σ H Q => te σ H fun x H1 => x = .ref a ∧ ExcC K C ∧ PySem.W.findIn K (.ref C) f = some none ∧ ∃ (dd : Addr) (fs : List (Str × V)) (v : V), d = some dd ∧ H1 dd = some (.xd fs) ∧ fs.lookup f = some v ∧ Q v H1
theorem pe_xg {te : TE} (P : Pn X a C d) (he : PE X e te) (hb : attributeBase e f X.env (eval e X.env) = eval e X.env := by rfl) : PE X (.Attribute e f pos) (tXg X.K a d C f te) := by
  refine ⟨fun pins s σ H Q I h => ?_⟩
  refine attr_of hb (thn (he.run pins s σ H _ I h) fun u s1 hh => ?_)
  obtain ⟨oe, hp, hz, hf⟩ := P
  obtain ⟨x, H1, I1, rx, ex, G, hno, dd, fs, v, ed, ea, l, q⟩ := hh
  subst ex
  obtain rfl : u = Value.ref a := rx
  subst ed
  obtain ⟨ha, _⟩ := I1.pin (a, oe) (List.mem_append_left _ hp)
  obtain ⟨vs, hd⟩ := hf
  have hx : ObjOk X.prog X.w H1 s1.heap dd (.xd fs) := I1.hok dd _ ea
  obtain ⟨mA, hns, hr⟩ := hx
  obtain ⟨od, ho, hl⟩ := lookIn_ns hns
  obtain ⟨u, hu, ru⟩ := RelO.some_of (v := v) (o := mA f) (by rw [← l]; exact hr f)
  have J : PySem.W.InstAt s1.heap a oe C (some od) := ⟨ha, hz.1, by unfold PySem.W.notCls; rw [hd] <;> rfl, by rw [hz.2]; exact ho⟩
  exact HandSPX.exc_get I1.kIn J G.hg G.hk G.hs (PySem.W.findObj_own G.hd hno rfl (by rw [hl, hu])) (handed_of ru) ⟨v, H1, I1.tok _, ru, q⟩
theorem q_xf (T : Xt X.K X.mg ca ns ts cs fs isa) (P : Pn X a C d) (hfs : f ∈ fs) (ha : QP X W M root e pa) (hb : attributeBase e f X.env (eval e X.env) = eval e X.env := by rfl) :
    QE X W M (.Attribute e f pos) (s1 pa fun t Q => excP a C d t fun ks ds => ∃ x, C = ca x ∧ x ∈ ns ∧ ∃ u, (ks.zip ds).lookup f = some u ∧ d.isSome = true ∧ Q (.fz u)) :=
  ⟨PE_imp (pe_xg P ha.run hb) fun σ H Qv ⟨n, ow, env, Q, E, s, hq, k, x⟩ => ⟨n, ow, env, _, E, s, hq, fun v t pt H' ow' env' y1 s' o rr z => by
    dsimp only [excP] at z
    split at z
    · rename_i a' C' d' ks ds
      obtain ⟨rfl, rfl, rfl, nm, ec, hn, u, hu, hs, z⟩ := z
      obtain ⟨rfl, hd⟩ := exc_rd (rr.ro s')
      obtain ⟨dd, rfl⟩ := Option.isSome_iff_exists.mp hs
      obtain ⟨vs, h1, h2, h3⟩ := hd dd rfl
      obtain ⟨w, hw, rw'⟩ := zip_look h2 h3 hu
      exact ⟨rfl, by rw [ec]; exact T.exc nm hn, by rw [ec]; exact T.no nm hn f hfs, dd, _, w, rfl, h1, hw, k w (.fz u) H' ow' env' y1 s' o (Tq.fz_.mpr rw') z⟩
    · exact z.elim, x⟩⟩
end
def sTryAs (i : Nat) (ca : Str → Addr) (ns : List Str) (hit : Str → Bool) (sb : SemS) (ss : Addr → Addr → Option Addr → SemS) : SemS := fun D env => sb { D with ex := fun r env1 => ∃ x, r.C = ca x ∧ x ∈ ns ∧ (hit x = true → ∀ a d, (d.isSome = true ∨ (r.ks = [] ∧ r.ds = [])) → ss a r.C d { D with nx := fun e => D.nx (e.set i none), bk := fun e => D.bk (e.set i none), ct := fun e => D.ct (e.set i none) } (env1.set i (some (.fz (.exc a r.C d r.ks r.ds))))) ∧ (hit x = false → D.ex r env1) } env
theorem s_tryAs {X : Cx} {W : WX} {IO : List Nat} (i : Nat) {y n : Str} {body suite : List Stmt} {b0 : Stmt} {np pos pos' : Pos} {sb : SemS} {ss : Addr → Addr → Option Addr → SemS} {ca : Str → Addr} {ns ts cs fs : List Str} {isa : Str → Str → Bool}
    (T : Xt X.K X.mg ca ns ts cs fs isa) (hy : y ∈ cs) (hgy : Gl X y) (tk : L2.Takes X W) (hN : X.N.Nodup) (hb : ∀ (W1 : WX) (pn : List (Addr × Obj)) (xe : Value → Shared → Prop), L2.Takes (X.tr pn xe) W1 → PassesOwn (model X.prog X.w) X.A X.env xe → QSs (X.tr pn xe) W1 IO body sb)
    (hsu : ∀ (a C : Addr) (d : Option Addr) (pn : List (Addr × Obj)), Pn (X.suite a pn) a C d → QSs (X.suite a pn) W IO (b0 :: suite) (ss a C d))
    (hs : X.stack = X.env :: X.outer := by rfl) (hf : X.env.frame = some X.env.locals := by rfl) (hi : X.N[i]? = some n := by rfl) (hln : X.env.kindOf n = some .local := by rfl) (hdy : (y == ("__debug__" : Str)) = false := by decide) (hio : i ∉ IO := by decide) :
    QS X W IO (.Try body [.ExceptHandler (some (.Name y np)) (some n) (b0 :: suite) pos'] [] [] pos) (sTryAs i ca ns (fun x => isa x y) sb ss) := by
  refine ⟨PS_imp (ps_try_as (c := .ref (ca y)) (tb := fun W1 => tS X.K W1 IO sb) (ts := fun a cls d D σ H => ∃ C : Addr, cls = .ref C ∧ tS X.K W IO (ss a C d) D σ H) (Wout := W) hs hf hN hi hln ⟨hgy, hdy, .inl (T.mg y (.inr hy))⟩ tk (fun W1 pn xe t p => (hb W1 pn xe t p).run)
    (fun a oe cls d pn hz hv => ⟨fun pins s σ H D I ⟨C, ec, q⟩ => by subst ec; exact (hsu a C d ((a, oe) :: pn) ⟨oe, List.mem_cons_self, hz, hv⟩).run.run pins s σ H D I q⟩)) fun D σ H ⟨ow, env, De, s, hq, k⟩ => ?_⟩
  refine ⟨ow, env, _, s, hq, ⟨k.nx, k.rt, k.bk, k.ct, fun r d σ1 H1 ow1 env1 fs io st rz z => ?_⟩⟩
  obtain ⟨x, hx, hn, z1, z2⟩ := z
  have rp : ∀ a, Rp X.K (Bs H1 ow1) (.ref a) (.exc a r.C d r.ks r.ds) := fun a => by
    obtain ⟨rC, rks, rds⟩ := r
    cases d with
    | none => obtain ⟨h1, h2⟩ := rz; subst h1 h2; exact .exc0 _ _
    | some dd => obtain ⟨vs, h1, h2, h3⟩ := rz; exact .exc1 h1 h2 h3
  have dz : d.isSome = true ∨ (r.ks = [] ∧ r.ds = []) := by
    cases d with
    | none => exact .inr rz
    | some _ => exact .inl rfl
  refine ⟨isa x y, by rw [hx]; exact T.exm x hn y hy, fun e a ha => ⟨r.C, rfl, ow1, env1.set i (some (.fz (.exc a r.C d r.ks r.ds))), _, st.set (Tq.fz_.mpr (rp a)), z1 e a d dz, ?_⟩, fun e => k.ex r d σ1 H1 ow1 env1 fs io st rz (z2 e)⟩
  have io1 : Ios IO σ (σ1.set i (some (.ref a))) := io.trans (ios_set hio)
  have un : ∀ {σ2 : L2.St} {H2 : Hp} {ow2 : Ow} {env2 : QV.Env}, StOk X.K H2 ow2 σ2 env2 → StOk X.K H2 ow2 (σ2.set i none) (env2.set i none) := fun {σ2 H2 ow2 env2} s2 => ⟨by simp [s2.len], fun j t ej => by
    by_cases hj : i = j
    · subst hj
      by_cases hl : i < env2.length
      · rw [List.getElem?_set_self hl] at ej
        cases ej
      · rw [List.getElem?_eq_none (by simpa using hl)] at ej
        cases ej
    · rw [List.getElem?_set_ne hj] at ej ⊢
      exact s2.at_ j t ej⟩
  exact ⟨fun σ2 H2 ow2 env2 f2 i2 s2 z => k.nx _ _ _ _ (fs.trans f2) ((io1.trans i2).trans (ios_set hio)) (un s2) z, k.rt.step fs io1, fun σ2 H2 ow2 env2 f2 i2 s2 z => k.bk _ _ _ _ (fs.trans f2) ((io1.trans i2).trans (ios_set hio)) (un s2) z,
    fun σ2 H2 ow2 env2 f2 i2 s2 z => k.ct _ _ _ _ (fs.trans f2) ((io1.trans i2).trans (ios_set hio)) (un s2) z, k.ex.step fs io1⟩
section
variable {P : Program} {w : World} {K : PySem.W.Frag} {mg : Str → Option Value} {base : Heap}
structure FnP (P : Program) (w : World) (K : PySem.W.Frag) (mg : Str → Option Value) (base : Heap) (k : Nat) (f : Addr) (fd : FuncData) (ps : List Str) (sp : Addr → Addr → Option Addr → Sp) : Prop where
  len : ∀ a C d vs H Q E, sp a C d vs H Q E → vs.length = ps.length
  run : ∀ (A : Around) (outer : List PySem.Env) (s : Shared) (H : Hp) (args : Args) (us : List Value) (vs : List V) (Q : VK) (p : Addr × Obj) (C : Addr) (d : Option Addr), L2H.RoomH k A → A.guards = some [] → L2H.PinOk outer H s p → Zc (.ref C) d p.2 → (∃ ws, p.2.data = .fields ws) → Env0 P w K mg base A outer s H → BindsTo s fd args (ps.zip us) → Vals vs us → sp p.1 C d vs H Q (fun _ _ _ => False) →
    codeAny (model P w) A (.call (.ref f) args) (CR (fun _ _ _ _ _ _ => False) outer P w H s Q fun _ _ _ => False) s
theorem fnP_of {k : Nat} {x qual : Str} {st : Stmt} {f : Addr} {fd : FuncData} {N ps : List Str} {sp : Addr → Addr → Option Addr → Sp} (F : Fun K x qual st f fd) (S : FnScope N ps (defScope st)) (len : ∀ a C d vs H Q E, sp a C d vs H Q E → vs.length = ps.length)
    (hb : ∀ (cdv : Value) (A : Around) (outer : List PySem.Env) (s : Shared) (H : Hp) (vs : List V) (Q : VK) (p : Addr × Obj) (C : Addr) (d : Option Addr), L2H.RoomH k (A.deeper (envOfC qual (defScope st) s.heap.objs.size f cdv)) → A.guards = some [] →
      Pn (L2H.cxH (fun _ _ _ _ _ _ => False) P w K mg base N qual (defScope st) f cdv A outer s H (fun _ _ _ => False) p) p.1 C d → sp p.1 C d vs H Q (fun _ _ _ => False) →
      ∃ t, PSs (L2H.cxH (fun _ _ _ _ _ _ => False) P w K mg base N qual (defScope st) f cdv A outer s H (fun _ _ _ => False) p) (defBody st) t ∧ t { nx := fun _ H' => Q .non H', rt := Q } (L2.start N vs) H) : FnP P w K mg base (k + 1) f fd ps sp := by
  obtain ⟨oc, od, kV, doc, pm, an, cdv, ct, osl, rfl, lk, hcd⟩ := F.ex
  refine ⟨len, fun A outer s H args us vs Q p C d hr hG hpin hz hv e0 hbind r hsp => ?_⟩
  have hl := len _ _ _ _ _ _ _ hsp
  have KX : K.In s.heap := e0.mod.kin.keeps fun b o e => (e0.bs b o e).1
  have lim : s.heap.NoLimit := e0.mod.nolimit.keeps fun b o e => (e0.bs b o e).1
  have hkind : ∀ y ∈ ps.zip us, (defScope st).names.lookup y.1 = some .local ∨ ((defScope st).names.lookup y.1 = some .cell ∧ ((cellsFrom (s.heap.objs.size + 1) (defScope st).names []).lookup y.1).isSome = true) := fun ⟨n, v⟩ hy => by
    rcases S.par n (List.of_mem_zip hy).1 with q | q
    · exact .inl q
    · exact .inr ⟨q, PySem.W.cellsFrom_some _ _ _ (.inl q)⟩
  refine codeAny_call_function hr.depth (KX _ _ lk) rfl S.co S.gen rfl (PySem.W.codeRec_of KX hcd) (hbind _ _ _ _ ?_)
  refine wpAny_newFunctionEnv_cells S.kind hkind fun env he s1 x => ?_
  subst he
  refine ⟨lim.keeps x.toInCall.keep, codeAny_func ?_⟩
  obtain ⟨t, ht, hq⟩ := hb cdv A outer s H vs Q p C d (hr.deeper _) hG ⟨p.2, List.mem_singleton.mpr rfl, hz, hv⟩ hsp
  have I : Inv (L2H.cxH (fun _ _ _ _ _ _ => False) P w K mg base N qual (defScope st) f cdv A outer s H (fun _ _ _ => False) p) [] (L2.start N vs) H s1 := L2H.inv_startH S hpin e0 hl r x
  refine wpAny_mono (ht.run [] s1 (L2.start N vs) H _ I hq) (fun fl s' hs => ?_) fun e s' hs => hs
  have fin : ∀ {σ' : L2.St} {H' : Hp} {v : V} {u : Value}, Inv (L2H.cxH (fun _ _ _ _ _ _ => False) P w K mg base N qual (defScope st) f cdv A outer s H (fun _ _ _ => False) p) [] σ' H' s' → RelV v u → Q v H' → CE outer P w H s Q u s' :=
    fun {σ' H' v u} J rv q => ⟨v, H', J.os, J.bare, J.base, J.hok, rv, q⟩
  cases fl with
  | ret u =>
    obtain ⟨v, σ', H', J, rv, q⟩ := hs
    exact fin J rv q
  | next =>
    obtain ⟨σ', H', J, q⟩ := hs
    exact fin (v := V.non) (u := Value.none) J rfl q
  | brk =>
    obtain ⟨_, _, _, q⟩ := hs
    exact False.elim q
  | cont =>
    obtain ⟨_, _, _, q⟩ := hs
    exact False.elim q
abbrev SemX := List D → (D → Prop) → Prop
def spP (K : PySem.W.Frag) (n : Nat) (spec : SemX) (a C : Addr) (d : Option Addr) : Sp := fun vs H Qv _ => vs.length = n ∧ ∃ (ow : Ow) (ds : List D) (Q : D → Prop) (ks : List Str) (es : List D), ds.length = n ∧ ds[0]? = some (.exc a C d ks es) ∧ Rps K (Bs H ow) vs ds ∧ spec ds Q ∧
  ∀ (v : V) (u : D) (H' : Hp) (ow' : Ow), Fs H ow H' ow' → Rp K (Bs H' ow') v u → Q u → Qv v H'
def QFnP (P : Program) (w : World) (K : PySem.W.Frag) (mg : Str → Option Value) (base : Heap) (k : Nat) (f : Addr) (fd : FuncData) (ps : List Str) (spec : SemX) : Prop := FnP P w K mg base k f fd ps (spP K ps.length spec)
theorem qfnP_of {k : Nat} {x qual : Str} {st : Stmt} {f : Addr} {fd : FuncData} {N ps : List Str} {spec : SemX} (F : Fun K x qual st f fd) (S : FnScope N ps (defScope st))
    (hb : ∀ (cdv : Value) (A : Around) (outer : List PySem.Env) (s : Shared) (H : Hp) (p : Addr × Obj) (C : Addr) (d : Option Addr), L2H.RoomH k (A.deeper (envOfC qual (defScope st) s.heap.objs.size f cdv)) → A.guards = some [] →
      Pn (L2H.cxH (fun _ _ _ _ _ _ => False) P w K mg base N qual (defScope st) f cdv A outer s H (fun _ _ _ => False) p) p.1 C d →
      ∃ q, QSs (L2H.cxH (fun _ _ _ _ _ _ => False) P w K mg base N qual (defScope st) f cdv A outer s H (fun _ _ _ => False) p) W0 [] (defBody st) q ∧ ∀ (ds : List D) (Q : D → Prop) (ks : List Str) (es : List D), ds.length = ps.length → ds[0]? = some (.exc p.1 C d ks es) → spec ds Q →
        q (EndsF [] (fun t _ => Q t.d) fun _ _ => False) (env0 N.length (ds.map .fz))) : QFnP P w K mg base (k + 1) f fd ps spec := by
  refine fnP_of F S (fun a C d vs H Q E h => h.1) fun cdv A outer s H vs Qv p C d hr hG hp ⟨hl, ow, ds, Q, ks, es, h1, h2, h3, h4, h5⟩ => ?_
  obtain ⟨q, hq, hs⟩ := hb cdv A outer s H p C d hr hG hp
  refine ⟨_, hq.run, ow, env0 N.length (ds.map .fz), _, ⟨?_, fun i t e => ?_⟩, hs ds Q ks es h1 h2 h4, ?_⟩
  · unfold env0 L2.start
    rw [List.length_append, List.length_append, List.length_map, List.length_map, List.length_map, List.length_replicate, List.length_replicate, h1, hl]
  · have e1 := env0_get e
    rw [List.getElem?_map] at e1
    cases ed : ds[i]? with
    | none => rw [ed] at e1; cases e1
    | some u =>
      rw [ed] at e1
      cases e1
      obtain ⟨v, e2, r⟩ := h3.get ed
      exact ⟨v, start_get e2, Tq.fz_.mpr r⟩
  · refine ⟨fun σ' H' ow' env' fs i s' z => ?_, fun v t σ' H' ow' env' fs i s' r z => ?_, fun _ _ _ _ _ _ _ z => z.elim, fun _ _ _ _ _ _ _ z => z.elim, fun r d σ' H' ow' env' fs i s' rz z => ?_⟩
    · exact h5 .non .non H' ow' fs .non z
    · have y2 : Stp [] 0 H' ow' H' (Ow.mv ow' (.tm 0) .base) := Stp.mv not_tm
      exact h5 v t.d H' _ (fs.trans y2.fs) (r.frz (fun z => nomatch z)) z
    · exact z.elim
end
section
variable {X : Cx} {W : WX} {M : List Nat} {k : Nat} {f : Addr} {fd : FuncData} {ps : List Str} {spec : SemX} {ks : List (Option Nat)} {e : Expr} {es : List Expr} {qs : SemD} {x : Str} {p pos : Pos} {a C : Addr} {d : Option Addr}
def CalleeP (P : Program) (w : World) (K : PySem.W.Frag) (mg : Str → Option Value) (base : Heap) (k : Nat) (x : Str) (ps : List Str) (spec : SemX) : Prop :=
  ∃ (f : Addr) (fd : FuncData), QFnP P w K mg base k f fd ps spec ∧ mg x = some (.ref f) ∧ PySem.W.keepIn K (.ref f) = true ∧ Binds K fd ps []
theorem q_callP (F : CalleeP X.prog X.w X.K X.mg X.base k x ps spec) (hP : Pn X a C d) (hr : L2H.RoomH k X.A) (hG : X.A.guards = some []) (hg : Gl X x)
    (ha : QA X W M ks (e :: es) qs) (hk : (ks.all fun x => x.isNone) = true := by rfl) (hn : ks.length = ps.length := by rfl) (hdb : (x == ("__debug__" : Str)) = false := by decide) (he : starEach (e :: es) X.env = (false, eval e X.env) :: starEach es X.env := by rfl)
    (hpl : (backTo pos (starEach es X.env)).any (·.1) = false := by rfl) : QE X W M (.Call (.Name x p) (e :: es) [] pos) (fun env Q E => qs env (fun ds env1 => (match ds with | .exc a' C' d' _ _ :: _ => a' = a ∧ C' = C ∧ d' = d | _ => False) ∧ spec ds fun u => Q (.fz u) env1) E) := by
  obtain ⟨f, fd, F, hm, hkp, hb⟩ := F
  refine ⟨⟨fun pins s σ H Qv I ⟨n, ow, env, Q, E, st, hq, kk, xx⟩ => ?_⟩⟩
  refine wpAny_Call_Name_kw (ld_glob I hg hm ?_ hdb)
  refine PySem.W.callWith_K (h₀ := X.base) I.ok.mod.kin hkp (thn (ha.run.run pos pins s σ H (fun vs H1 => spP X.K ps.length spec a C d vs H1 Qv fun _ _ _ => False) I ⟨n, ow, env, _, E, st, hq, fun vs ds H1 ow1 env1 y1 s1 o1 l1 l2 hv z => ?_, xx⟩) fun us s1 ⟨vs, H1, I1, r, q⟩ => ⟨I1.kIn, ?_⟩) he hpl
  · obtain ⟨z1, z2⟩ := z
    have rr : Rps X.K (Bs H1 ow1) vs ds := by
      have all : ∀ (vs : List V) (ds : List D), vs.length = ds.length → (∀ (j : Nat) (v : V) (d : D), vs[j]? = some v → ds[j]? = some d → Rp X.K (Bs H1 ow1) v d) → Rps X.K (Bs H1 ow1) vs ds := by
        intro vs
        induction vs with
        | nil => intro ds h _; cases ds with
          | nil => exact .nil
          | cons _ _ => simp at h
        | cons v vs ih => intro ds h g; cases ds with
          | nil => simp at h
          | cons d ds => exact .cons (g 0 v d rfl rfl) (ih ds (by simpa using h) fun j v d e1 e2 => g (j + 1) v d (by simpa using e1) (by simpa using e2))
      refine all vs ds (l1.trans l2.symm) fun j v d e1 e2 => (hv j v d e1 e2).1 ?_
      have hj : j < ks.length := by have := (List.getElem?_eq_some_iff.mp e1).1; omega
      have := List.all_eq_true.mp hk ks[j] (List.getElem_mem hj)
      rw [List.getElem?_eq_getElem hj]
      cases h : ks[j] with
      | none => rfl
      | some _ => rw [h] at this; cases this
    have hd0 : ∃ ks' es', ds[0]? = some (.exc a C d ks' es') := by
      split at z1
      · obtain ⟨rfl, rfl, rfl⟩ := z1; exact ⟨_, _, rfl⟩
      · exact z1.elim
    obtain ⟨ks', es', hd0⟩ := hd0
    have sb : Same (Bs H1 ow1) (Bs H1 fun b => if ow1 b = .base then .base else .fr) := bs_lab fun b e1 => by rw [if_pos e1]
    refine ⟨by omega, fun b => if ow1 b = .base then .base else .fr, ds, fun u => Q (.fz u) env1, ks', es', by omega, hd0, rr.mono sb, z2, fun v u H' ow' fs ru qq => ?_⟩
    have old : ∀ b o, H1 b = some o → H' b = some o ∧ (match ow' b with | .base => Lab.base | .fr => ow1 b | _ => .tm n) = ow1 b := fun b o eb => by
      have h1 : (if ow1 b = .base then Lab.base else Lab.fr) = .fr ∨ (if ow1 b = .base then Lab.base else Lab.fr) = .base := by
        by_cases z : ow1 b = .base
        · exact .inr (if_pos z)
        · exact .inl (if_neg z)
      obtain ⟨g1, g2⟩ := fs b o eb h1
      refine ⟨g1, ?_⟩
      rw [g2]
      by_cases z : ow1 b = .base
      · simp only [z, if_true]
      · simp only [z, if_false]
    have y2 : Stp [] n H1 ow1 H' (fun b => match ow' b with | .base => Lab.base | .fr => ow1 b | _ => .tm n) := ⟨fun b o eb _ => old b o eb, fun b vs e => (old b _ e).1⟩
    refine kk v (.fz u) H' _ env1 (y1.trans y2 (fun _ h => h) nilsub (Nat.le_refl _) (Nat.le_refl _)) (s1.stp0 y2) o1 (Tq.fz_.mpr (ru.mono (bs_lab fun b e1 => by rw [e1]))) qq
  · obtain ⟨oe, hp, hz, hv⟩ := hP
    have hl : us.length = ps.length := by rw [← r.length]; exact F.len _ _ _ _ _ _ _ q
    have b := hb s1 us I1.kIn (by rw [List.append_nil]; exact hl)
    rw [List.append_nil] at b
    have P1 := I1.pin (a, oe) (List.mem_append_left _ hp)
    have hpin : L2H.PinOk X.stack H1 s1 (a, oe) := ⟨P1.1, P1.2.1, fun hm => (List.mem_cons.mp (I1.stkSub a hm)).elim P1.2.2.1 P1.2.2.2.1, P1.2.2.2.2⟩
    refine wpAny_call (codeAny_mono (F.run X.A X.stack s1 H1 ⟨us, []⟩ us vs Qv (a, oe) C d hr hG hpin hz hv I1.env0 b r q) fun r s' hq => ?_)
    cases r with
    | error e => exact False.elim hq
    | ok fl =>
      cases fl with
      | ret u => exact I1.after hq
      | next => exact False.elim hq
      | brk => exact False.elim hq
      | cont => exact False.elim hq
end
end QV

set_option Elab.async false
set_option linter.all false
set_option maxRecDepth 100000
set_option maxHeartbeats 2000000
namespace QV
open PySem PySem.Spec PyProof.Rows L2
def inCls : Stmt → Nat → Stmt
  | .ClassDef (body := b) .., j => b.getD j (.Pass ⟨0, 0, 0, 0⟩)
  | _, _ => .Pass ⟨0, 0, 0, 0⟩
section
variable {P : Program} {w : World} {K : PySem.W.Frag} {mg : Str → Option Value} {base : Heap}
structure BareG (P : Program) (w : World) (K : PySem.W.Frag) (mg : Str → Option Value) (base : Heap) (k : Nat) (x : Str) (C : Addr) : Prop where
  at_ : mg x = some (.ref C)
  ex : ∃ fI fd, OexC K C ∧ PySem.W.findIn K (.ref C) "__init__" = some (some (.ref fI)) ∧ PySem.W.typeIn K (.ref fI) = some (.type "function") ∧ FnOk P w K mg base (L2.CX P w) k fI fd ["self"] (spIni K) ∧ Binds K fd ["self"] []
structure BareG1 (P : Program) (w : World) (K : PySem.W.Frag) (mg : Str → Option Value) (base : Heap) (k : Nat) (x : Str) (C : Addr) (f : Str) (ps : List Str) : Prop where
  at_ : mg x = some (.ref C)
  no : PySem.W.findIn K (.ref C) f = some none
  ex : ∃ fI fd, OexC K C ∧ PySem.W.findIn K (.ref C) "__init__" = some (some (.ref fI)) ∧ PySem.W.typeIn K (.ref fI) = some (.type "function") ∧ FnOk P w K mg base (L2.CX P w) k fI fd ps (spIni1 K f) ∧ Binds K fd ps []
structure BaseC (K : PySem.W.Frag) (mg : Str → Option Value) (b : Str) : Prop where
  ex : ∃ S, mg b = some (.ref S) ∧ PySem.W.specialIn K (.ref S) "__getattribute__" = some (some (.builtin "type.__getattribute__")) ∧ PySem.W.readsIn K S (.type "type") = true ∧ PySem.W.findCls K (.ref S) (.type "type") "__init__" = some (.val (.builtin "ValueError.__init__"))
theorem kit_sub {x y : Addr} {b : Bool} (h1 : PySem.W.hasDictIn K y = true) (h2 : PySem.W.typeIn K (.ref y) = some (.type "type")) (h3 : PySem.W.subIn K (.ref x) (.ref y) = some b) (hs : PySem.W.subIn K (.ref y) (.ref y) = some true) : PySem.W.kitOne K (.ref x) (.ref y) = some b := by
  unfold PySem.W.kitOne
  by_cases e : (Value.ref x == Value.ref y) = true
  · rw [if_pos e]
    have : x = y := Value.ref.inj (beq_iff_eq.mp e)
    subst this
    rw [h3] at hs
    exact hs.symm
  · rw [if_neg e]
    obtain ⟨cd, hc, _⟩ := PySem.W.any_some h1
    have e2 : ((PySem.W.clsIn K y).isSome && PySem.W.typeIn K (.ref y) == some (.type "type")) = true := by rw [hc, h2] <;> rfl
    show (if ((PySem.W.clsIn K y).isSome && PySem.W.typeIn K (.ref y) == some (.type "type")) = true then PySem.W.subIn K (.ref x) (.ref y) else none) = some b
    rw [if_pos e2]
    exact h3
theorem kit_val {x : Addr} (h : PySem.W.subIn K (.ref x) (.type "ValueError") = some true) : PySem.W.kitOne K (.ref x) (.type "ValueError") = some true := by
  unfold PySem.W.kitOne
  have e : ¬ (Value.ref x == Value.type "ValueError") = true := fun z => by cases (beq_iff_eq.mp z)
  rw [if_neg e]
  show (if PySem.W.kitMeta "ValueError" = true then PySem.W.subIn K (.ref x) (.type "ValueError") else none) = some true
  rw [if_pos (by decide +kernel)]
  exact h
theorem roomS {A : Around} {v : Option Value} {j k : Nat} (hr : Room j A) (h : k ≤ j) : L2H.RoomH k (A.mark v) := ⟨(L2H.roomH_of (hr.mono h)).dp, (L2H.roomH_of (hr.mono h)).un⟩
theorem hu65H {A : Around} {k : Nat} (hr : L2H.RoomH k A) : A.units + 65 < cLine := by have := hr.un; omega
theorem calleeP_of {k : Nat} {x : Str} {st : Stmt} {N ps : List Str} {spec : SemX} (Df : DefAt K mg x st ps) (S : FnScope N ps (defScope st))
    (hb : ∀ (f : Addr) (cdv : Value) (A : Around) (outer : List PySem.Env) (s : Shared) (H : Hp) (p : Addr × Obj) (C : Addr) (d : Option Addr), L2H.RoomH k (A.deeper (envOfC x (defScope st) s.heap.objs.size f cdv)) → A.guards = some [] →
      Pn (L2H.cxH (fun _ _ _ _ _ _ => False) P w K mg base N x (defScope st) f cdv A outer s H (fun _ _ _ => False) p) p.1 C d →
      ∃ q, QSs (L2H.cxH (fun _ _ _ _ _ _ => False) P w K mg base N x (defScope st) f cdv A outer s H (fun _ _ _ => False) p) W0 [] (defBody st) q ∧ ∀ (ds : List D) (Q : D → Prop) (ks : List Str) (es : List D), ds.length = ps.length → ds[0]? = some (.exc p.1 C d ks es) → spec ds Q →
        q (EndsF [] (fun t _ => Q t.d) fun _ _ => False) (env0 N.length (ds.map .fz))) : CalleeP P w K mg base (k + 1) x ps spec :=
  let ⟨f, fd, F, m, b⟩ := Df
  ⟨f, fd, qfnP_of F S (hb f), m, F.kp, b⟩
theorem all_in {α : Type} {p : α → Prop} {a : α} {l : List α} (h : p a) (t : ∀ x, x ∈ l → p x) : ∀ x, x ∈ a :: l → p x := fun x hx => by
  rcases List.mem_cons.mp hx with rfl | hx
  · exact h
  · exact t x hx
theorem no_in {α : Type} {p : α → Prop} : ∀ x, x ∈ ([] : List α) → p x := fun _ h => nomatch h
theorem fun_at {x qual : Str} {st : Stmt} {f : Addr} {ps : List Str} {oc : Value} {od an : Option Addr} {osl : Array (Option Value)} {kV doc pm cdv ct : Value}
    (l : K.lookup f = some ⟨oc, od, .func (PySem.W.fnOf x qual (defArgs st) (defBody st) (defScope st) .none kV doc pm an cdv ct), osl⟩) (c : PySem.W.codeIn K cdv qual = true) (k : PySem.W.keepIn K (.ref f) = true)
    (hb : ∀ (kV doc pm : Value) (an : Option Addr) (cdv ct : Value) (us : List Value), us.length = ps.length → bindArgs (PySem.W.fnOf x qual (defArgs st) (defBody st) (defScope st) .none kV doc pm an cdv ct) ⟨us, []⟩ = pure (ps.zip us)) : ∃ fd, Fun K x qual st f fd ∧ Binds K fd ps [] :=
  have F := fun_mk (x := x) (qual := qual) (st := st) l c k
  ⟨_, F, F.binds hb⟩
end
end QV

set_option Elab.async false
set_option linter.all false
set_option maxRecDepth 100000
set_option maxHeartbeats 2000000
namespace QV
open PySem PySem.Spec PyProof.Rows L2
def rCntF (K : PySem.W.Frag) : V → List V → Hp → VK → Prop := fun x xs H Q => ∃ (p : Addr) (ys : List V) (y : V), x = .ref p ∧ xs = [y] ∧ SqL K H p ys ∧ flatV y = true ∧ ys.all flatV = true ∧ Q (.int ((ys.countP fun z => eqV z y : Nat) : Int)) H
theorem count_eqU {y : V} : ∀ {ys : List V} {us : List Value}, Vals ys us → ys.all flatV = true → us.countP (eqU y) = ys.countP fun z => eqV z y
  | _, _, .nil, _ => rfl
  | _, _, .cons r t, f => by
    rw [List.all_cons, Bool.and_eq_true] at f
    rw [List.countP_cons, List.countP_cons, count_eqU t f.2, eqU_of r f.1]
theorem mt_fcount {X : Cx} : MtR X "list.count" (rCntF X.K) := by
  intro pins s σ H x xs v us Q I rx rxs h
  obtain ⟨p, ys, y, rfl, rfl, hs, fy, fys, q⟩ := h
  cases rx
  cases rxs with
  | cons ry rt =>
    rename_i uy ut
    cases rt
    obtain ⟨its, rv, ⟨⟨cls, dd, data, sl⟩, n, ho, hc, hdn, hd⟩, hlen⟩ := I.list hs
    simp only at hc hd
    subst hc hd
    refine call_meets PySem.F.slot_list_count ⟨_, ho, rfl⟩ PySem.F.entry_list_count (PySem.F.args_list_count_2 _ _)
      (SeqAt.list_countAt p its.toArray n dd sl uy (eqU y)) ⟨ho, fun u' hu' => mem_eqAt ry fy rv fys u' (by simpa using hu'), ?_⟩
    have ec : its.toArray.toList.countP (eqU y) = ys.countP fun z => eqV z y := count_eqU rv fys
    refine ⟨.int ((ys.countP fun z => eqV z y : Nat) : Int), H, I.tok _, ⟨s.toks, ?_⟩, q⟩
    show Value.int ((its.toArray.toList.countP (eqU y) : Nat) : Int) s.toks = _
    rw [ec]
section
variable {X : Cx} {W : WX} {Ma Ml : List Nat} {e o : Expr} {ra rb : Option Nat} {pa pb : SemP} {apos pos : Pos}
def sLm (pa pb : SemP) (g : List D → D → (D → Prop) → Prop) : SemE := fun env Q E => pa env (fun t _ env1 => match shL t with
  | some ds => pb env1 (fun u _ env2 => g ds u.d fun w => Q (.fz w) env2) E
  | none => False) E
def LmO (K : PySem.W.Frag) (r : V → List V → Hp → VK → Prop) (g : List D → D → (D → Prop) → Prop) : Prop := ∀ (H : Hp) (a : Addr) (vs : List V) (v : V) (ds : List D) (d : D) (Q : D → Prop) (Qv : VK), SqL K H a vs → vs.length ≤ sizeLine → Rps K H vs ds → Rp K H v d → g ds d Q →
  (∀ w u, (∀ B, Rp K B w u) → Q u → Qv w H) → r (.ref a) [v] H Qv
theorem q_lm {id : String} {name : Str} {r : V → List V → Hp → VK → Prop} {g : List D → D → (D → Prop) → Prop} (slot : Slot "list" name id) (hty : typeOf (.builtin id) = pure (.type "method_descriptor")) (hm : MtR X id r) (hg : LmO X.K r g) (ho : QP X W Ma ra o pa) (he : QP X W Ml rb e pb)
    (hr : okR ra Ml = true := by decide) (hbase : attributeBase o name X.env (eval o X.env) = eval o X.env := by rfl)
    (hfew : ((backTo pos (starEach [e] X.env)).all (fun x => !x.1) && (backToKw pos (keywordEach [] X.env)).all (fun x => x.1.isSome)
      && decide (([e] : List Expr).length + ([] : List Keyword).length + (if ([] : List Keyword).isEmpty then 0 else 1) < 30)) = true := by rfl)
    (hline : (apos.endLine == pos.line) = true := by rfl) (hs : starEach [e] X.env = (false, eval e X.env) :: starEach [] X.env := by rfl) (hplain : (backTo pos (starEach [] X.env)).any (·.1) = false := by rfl) :
    QE X W (Ma ++ Ml) (.Call (.Attribute o name apos) [e] [] pos) (sLm pa pb g) :=
  ⟨PE_imp (pe_bm PySem.F.plainAttrs_list slot hty hm ho.run (pa_cons he.run pa_nil hs) hbase hfew hline hs hplain) fun σ H Qv ⟨n, ow, env, Q, E, s, hq, k, x⟩ => ⟨n, ow, env, _, E, s, hq, fun v t pt H1 ow1 env1 y1 s1 o1 r1 z1 => by
    split at z1
    · rename_i ds et
      obtain ⟨a, vs, rfl, h1, hz, rr⟩ := (r1.ro s1).lst et
      refine ⟨.inl ⟨rfl, _, .inl (.inl h1)⟩, n + 1, ow1, env1, _, E, s1, z1, fun w u pu H2 ow2 env2 y2 s2 o2 r2 z2 => ?_, x.step y1 o1 subl subr (Nat.le_refl _) (Nat.le_succ _)⟩
      have r1' := (r1.stp y2 o2 hr (Nat.lt_succ_self _)).ro s2
      obtain ⟨a', vs', e', h1', hz', rr'⟩ := r1'.lst et
      cases e'
      refine hg H2 a vs' w ds u.d _ Qv (.inl (.inl h1')) hz' (rr'.mono (bs_same _ _)) (r2.ro s2).rd z2 fun v' d' rd qd => ?_
      exact k v' (.fz d') H2 ow2 env2 (y1.trans y2 subl subr (Nat.le_refl _) (Nat.le_succ _)) s2 (o1.trans o2 subl subr) (Tq.fz_.mpr (rd _)) qd
    · exact z1.elim, fun r d H' ow' env' y s' o => x r d H' ow' env' (y.mono subl (Nat.le_refl _)) s' (o.mono subl)⟩⟩
def cntG (ds : List D) (d : D) (Q : D → Prop) : Prop := (flD d && ds.all flD) = true ∧ Q (.int ((ds.countP fun z => eqD z d : Nat) : Int))
theorem fl_cnt {K : PySem.W.Frag} {B : Hp} {x : V} {d : D} (rx : Rp K B x d) (h : flD d = true) : ∀ {vs : List V} {ds : List D}, Rps K B vs ds → ds.all flD = true → (vs.countP fun z => eqV z x) = ds.countP fun z => eqD z d
  | _, _, .nil, _ => rfl
  | _, _, .cons r s, k => by
    rw [List.all_cons, Bool.and_eq_true] at k
    rw [List.countP_cons, List.countP_cons, fl_eq r rx k.1 h, fl_cnt rx h s k.2]
theorem g_cnt {K : PySem.W.Frag} : LmO K (rCntF K) cntG := fun H a vs v ds d Q Qv c hz rr rv ⟨h, q⟩ k => by
  rw [Bool.and_eq_true] at h
  refine ⟨a, vs, v, rfl, rfl, c, fl_V rv h.1, fl_all rr h.2, k _ _ (fun B => ?_) q⟩
  rw [fl_cnt rv h.1 rr h.2]
  exact .int _
theorem q_count (ho : QP X W Ma ra o pa) (he : QP X W Ml rb e pb)
    (hr : okR ra Ml = true := by decide) (hbase : attributeBase o "count" X.env (eval o X.env) = eval o X.env := by rfl)
    (hfew : ((backTo pos (starEach [e] X.env)).all (fun x => !x.1) && (backToKw pos (keywordEach [] X.env)).all (fun x => x.1.isSome)
      && decide (([e] : List Expr).length + ([] : List Keyword).length + (if ([] : List Keyword).isEmpty then 0 else 1) < 30)) = true := by rfl)
    (hline : (apos.endLine == pos.line) = true := by rfl) (hs : starEach [e] X.env = (false, eval e X.env) :: starEach [] X.env := by rfl) (hplain : (backTo pos (starEach [] X.env)).any (·.1) = false := by rfl) :
    QE X W (Ma ++ Ml) (.Call (.Attribute o "count" apos) [e] [] pos) (sLm pa pb cntG) := q_lm PySem.F.slot_list_count PySem.F.type_list_count mt_fcount g_cnt ho he hr hbase hfew hline hs hplain
end
end QV

set_option Elab.async false
set_option linter.all false
set_option maxRecDepth 100000
set_option maxHeartbeats 2000000
namespace L2
open PySem PySem.Spec PyProof.Rows
section
variable {prog : Program} {w : World} {A : Around} {E : Value → Shared → Prop} {s : Shared} {l : Addr} {xs : Array (Int × Tok)} {its : List Value} {ns : List Int}
end
end L2
namespace QV
open PySem L2
section
variable {K : PySem.W.Frag} {H : Hp} {ow : Ow}
end
section
variable {X : Cx} {W : WX} {M : List Nat} {e : Expr} {q : SemE} {pos p : Pos}
end
section
variable {K : PySem.W.Frag}
end
end QV

set_option Elab.async false
set_option linter.all false
set_option maxRecDepth 100000
set_option maxHeartbeats 2000000
namespace QV
open PySem L2

def T.kids : T → Option (Kd × List T)
  | .ow k ds => some (k, ds.map .fz)
  | .nd k ts => some (k, ts)
  | .fz _ => none
mutual
def T.put : T → List Nat → T → T
  | _, [], u => u
  | .nd k ts, j :: p, u => .nd k (Tput ts j p u)
  | t, _ :: _, _ => t
def Tput : List T → Nat → List Nat → T → List T
  | [], _, _, _ => []
  | t :: ts, 0, p, u => T.put t p u :: ts
  | t :: ts, j + 1, p, u => t :: Tput ts j p u
end
theorem put_nil {t u : T} : T.put t [] u = u := by cases t <;> rfl
theorem put_cons {k : Kd} {ts : List T} {j : Nat} {p : List Nat} {u : T} : T.put (.nd k ts) (j :: p) u = .nd k (Tput ts j p u) := rfl
theorem Tput_succ {t : T} {ts : List T} {j : Nat} {p : List Nat} {u : T} : Tput (t :: ts) (j + 1) p u = t :: Tput ts j p u := rfl
theorem Tput_set {p : List Nat} {u t : T} : ∀ {ts : List T} {j : Nat}, ts[j]? = some t → Tput ts j p u = ts.set j (T.put t p u)
  | [], j, h => by simp at h
  | t' :: ts, 0, h => by simp at h; subst h; rfl
  | t' :: ts, j + 1, h => by rw [Tput_succ, List.set_cons_succ, Tput_set (by simpa using h)]
section
variable {K : PySem.W.Frag} {H H' : Hp} {ow ow' : Ow} {l : Lab}
theorem tps_fz : ∀ {vs : List V} {ds : List D}, Rps K (Bs H ow) vs ds → ∃ S, Tps K H ow l vs (ds.map .fz) S ∧ ∀ b, ¬ S b
  | _, _, .nil => ⟨_, .nil, fun _ h => h⟩
  | _, _, .cons r s => by
    obtain ⟨S, h1, h2⟩ := tps_fz s
    exact ⟨_, .cons (.fz r) h1 fun _ h => h.elim, fun b h => h.elim id (h2 b)⟩
theorem tps_data : ∀ {vs : List V} {ds : List D} {S : Addr → Prop}, Tps K H ow l vs (ds.map .fz) S → Rps K (Bs H ow) vs ds ∧ ∀ b, ¬ S b
  | _, [], _, .nil => ⟨.nil, fun _ h => h⟩
  | _, d :: ds, _, .cons r s _ => by
    cases r with
    | fz r =>
      obtain ⟨h1, h2⟩ := tps_data s
      exact ⟨.cons r h1, fun b h => h.elim id (h2 b)⟩
theorem Tp.kid {v : V} {t : T} {St : Addr → Prop} {k : Kd} {ts : List T} (h : Tp K H ow l v t St) (e : t.kids = some (k, ts)) : ∃ a dx vs S, v = .ref a ∧ Cell H a dx k vs ∧ (∀ b, Foot a dx k b → ow b = l ∧ ¬ S b) ∧ Tps K H ow l vs ts S ∧ ∀ b, St b ↔ (Foot a dx k b ∨ S b) := by
  cases h with
  | fz _ => cases e
  | ow c f r =>
    cases e
    obtain ⟨S, h1, h2⟩ := tps_fz (l := l) r
    exact ⟨_, _, _, S, rfl, c, fun b fb => ⟨f b fb, h2 b⟩, h1, fun b => ⟨.inl, fun z => z.elim id fun z => (h2 b z).elim⟩⟩
  | nd c f r =>
    cases e
    exact ⟨_, _, _, _, rfl, c, f, r, fun b => .rfl⟩
theorem set_self {α : Type} : ∀ {l : List α} {j : Nat} {a : α}, l[j]? = some a → l.set j a = l
  | [], _, _, h => by simp at h
  | x :: l, 0, a, h => by simp at h; subst h; rfl
  | x :: l, j + 1, a, h => by rw [List.set_cons_succ, set_self (by simpa using h)]
theorem Tps.put : ∀ {vs : List V} {ts : List T} {S : Addr → Prop} {j : Nat} {v1 : V} {t1 : T}, Tps K H ow l vs ts S → vs[j]? = some v1 → ts[j]? = some t1 → ∃ S1, Tp K H ow l v1 t1 S1 ∧ (∀ b, S1 b → S b) ∧
    ∀ (H' : Hp) (ow' : Ow) (v2 : V) (t2 : T) (S2 : Addr → Prop), Same (Bs H ow) (Bs H' ow') → (∀ b o, S b → ¬ S1 b → H b = some o → ow b = l → H' b = some o ∧ ow' b = l) → Tp K H' ow' l v2 t2 S2 → (∀ b, S2 b → S b → S1 b) →
      ∃ S', Tps K H' ow' l (vs.set j v2) (ts.set j t2) S' ∧ ∀ b, S' b → (S b ∧ ¬ S1 b) ∨ S2 b
  | _, _, _, _, _, _, .nil, e, _ => by simp at e
  | _, _, _, 0, v1, t1, .cons (S1 := Sa) (S2 := Sb) r s d, e, e' => by
    simp at e e'
    subst e e'
    refine ⟨Sa, r, fun b h => .inl h, fun H' ow' v2 t2 S2 bs fr r2 ds => ?_⟩
    have s' := s.car (l' := l) bs fun b o hb e1 e2 => fr b o (.inr hb) (fun z => d b z hb) e1 e2
    exact ⟨_, .cons r2 s' fun b h2 hb => d b (ds b h2 (.inr hb)) hb, fun b h => h.elim .inr fun hb => .inl ⟨.inr hb, fun z => d b z hb⟩⟩
  | _, _, _, j + 1, v1, t1, .cons (S1 := Sa) (S2 := Sb) r s d, e, e' => by
    obtain ⟨S1, r1, sub, go⟩ := Tps.put (j := j) s (by simpa using e) (by simpa using e')
    refine ⟨S1, r1, fun b h => .inr (sub b h), fun H' ow' v2 t2 S2 bs fr r2 ds => ?_⟩
    obtain ⟨S', h1, h2⟩ := go H' ow' v2 t2 S2 bs (fun b o hb n e1 e2 => fr b o (.inr hb) n e1 e2) r2 fun b hb hs => ds b hb (.inr hs)
    have r' := r.car (l' := l) bs fun b o hb e1 e2 => fr b o (.inl hb) (fun z => d b hb (sub b z)) e1 e2
    refine ⟨_, .cons r' h1 fun b ha hb => ?_, fun b h => ?_⟩
    · rcases h2 b hb with z | z
      · exact d b ha z.1
      · exact d b ha (sub b (ds b z (.inl ha)))
    · rcases h with z | z
      · exact .inl ⟨.inl z, fun y => d b z (sub b y)⟩
      · rcases h2 b z with y | y
        · exact .inl ⟨.inr y.1, y.2⟩
        · exact .inr y
theorem Sub.put {v0 v : V} {t0 t : T} {pt : List Nat} (s : Sub K H ow l v0 t0 pt v t) : ∀ {S0 : Addr → Prop}, Tp K H ow l v0 t0 S0 → ∃ St, Tp K H ow l v t St ∧ (∀ b, St b → S0 b) ∧
    ∀ (H' : Hp) (ow' : Ow) (t' : T) (S2 : Addr → Prop), Same (Bs H ow) (Bs H' ow') → (∀ b o, S0 b → ¬ St b → H b = some o → ow b = l → H' b = some o ∧ ow' b = l) → Tp K H' ow' l v t' S2 → (∀ b, S2 b → S0 b → St b) →
      ∃ S', Tp K H' ow' l v0 (t0.put pt t') S' ∧ ∀ b, S' b → (S0 b ∧ ¬ St b) ∨ S2 b := by
  induction s with
  | nil =>
    intro S0 r
    refine ⟨S0, r, fun _ h => h, fun H' ow' t' S2 bs fr r2 ds => ⟨S2, ?_, fun b h => .inr h⟩⟩
    rw [put_nil]
    exact r2
  | @cons a dx k vs ts j p v1 v t1 t c f e1 e2 _ ih =>
    intro S0 r
    cases r with
    | @nd a dx' k vs' ts S c' f' r' =>
      have e := c'.inj c
      subst e
      obtain ⟨S1, r1, sub, go⟩ := r'.put e1 e2
      obtain ⟨St, rt, sub2, go2⟩ := ih r1
      refine ⟨St, rt, fun b h => .inr (sub b (sub2 b h)), fun H' ow' t' S2 bs fr r2 ds => ?_⟩
      obtain ⟨S3, r3, h3⟩ := go2 H' ow' t' S2 bs (fun b o hb n q1 q2 => fr b o (.inr (sub b hb)) n q1 q2) r2 fun b hb hs => ds b hb (.inr (sub b hs))
      obtain ⟨S4, r4, h4⟩ := go H' ow' v1 (T.put t1 p t') S3 bs (fun b o hb n q1 q2 => fr b o (.inr hb) (fun z => n (sub2 b z)) q1 q2) r3 fun b hb hs => by
        rcases h3 b hb with z | z
        · exact z.1
        · exact sub2 b (ds b z (.inr hs))
      rw [set_self e1] at r4
      have nS : ∀ b, Foot a dx' k b → ¬ St b := fun b fb z => (f' b fb).2 (sub b (sub2 b z))
      have cc : Cell H' a dx' k vs' := c'.at_same fun b o fb q => (fr b o (.inl fb) (nS b fb) q (f' b fb).1).1
      refine ⟨fun b => Foot a dx' k b ∨ S4 b, ?_, ?_⟩
      · rw [put_cons, Tput_set e2]
        refine .nd cc (fun b fb => ⟨?_, fun z => ?_⟩) r4
        · obtain ⟨o, q⟩ := c'.there fb
          exact (fr b o (.inl fb) (nS b fb) q (f' b fb).1).2
        · rcases h4 b z with y | y
          · exact (f' b fb).2 y.1
          · rcases h3 b y with w | w
            · exact (f' b fb).2 (sub b w.1)
            · exact nS b fb (ds b w (.inl fb))
      · intro b h
        rcases h with z | z
        · exact .inl ⟨.inl z, nS b z⟩
        · rcases h4 b z with y | y
          · exact .inl ⟨.inr y.1, fun w => y.2 (sub2 b w)⟩
          · rcases h3 b y with w | w
            · exact .inl ⟨.inr (sub b w.1), w.2⟩
            · exact .inr w
theorem Sub.snoc {v0 : V} {t0 : T} {pt : List Nat} {a dx : Addr} {k : Kd} {vs : List V} {ts : List T} {j : Nat} {v1 : V} {t1 : T} (s : Sub K H ow l v0 t0 pt (.ref a) (.nd k ts)) (c : Cell H a dx k vs) (f : ∀ b, Foot a dx k b → ow b = l) (e1 : vs[j]? = some v1) (e2 : ts[j]? = some t1) : Sub K H ow l v0 t0 (pt ++ [j]) v1 t1 := by
  generalize hv : V.ref a = v at s
  generalize ht : T.nd k ts = t at s
  induction s with
  | nil => subst hv ht; exact .cons c f e1 e2 .nil
  | cons c' f' g1 g2 _ ih => exact .cons c' f' g1 g2 (ih hv ht)
end
end QV

set_option Elab.async false
set_option linter.all false
set_option maxRecDepth 100000
set_option maxHeartbeats 2000000
namespace QV
open PySem L2

section
variable {K : PySem.W.Frag} {H : Hp} {ow : Ow} {σ : L2.St} {env : Env} {n : Nat} {root : Option Nat}
theorem Sub.cell {l : Lab} {v0 v : V} {t0 t : T} {pt : List Nat} {k : Kd} {ts : List T} (sb : Sub K H ow l v0 t0 pt v t) (r : Tq K H ow l v0 t0) (e : t.kids = some (k, ts)) : ∃ a dx vs S, v = .ref a ∧ Cell H a dx k vs ∧ (∀ b, Foot a dx k b → ow b = l ∧ ¬ S b) ∧ Tps K H ow l vs ts S := by
  obtain ⟨S, h⟩ := sb.tq r
  obtain ⟨a, dx, vs, S', h1, h2, h3, h4, _⟩ := h.kid e
  exact ⟨a, dx, vs, S', h1, h2, h3, h4⟩
theorem Plc.kid {v : V} {k : Kd} {ts : List T} {pt : List Nat} (s : StOk K H ow σ env) (h : Plc K H ow σ env n root v (.nd k ts) pt) : ∃ a dx vs, v = .ref a ∧ Cell H a dx k vs ∧ vs.length = ts.length ∧ ∀ j w t', vs[j]? = some w → ts[j]? = some t' → Plc K H ow σ env n root w t' (pt ++ [j]) := by
  rcases h with ⟨d, e, _⟩ | ⟨e, r⟩ | ⟨i, v0, t0, rfl, e1, e2, sb⟩
  · cases e
  · obtain ⟨a, dx, vs, S, h1, h2, h3, h4⟩ := Sub.cell (.nil) r (k := k) (ts := ts) rfl
    exact ⟨a, dx, vs, h1, h2, h4.len, fun j w t' g1 g2 => .inr (.inl ⟨e, let ⟨S', q⟩ := h4.get g1 g2; ⟨S', q⟩⟩)⟩
  · obtain ⟨w0, q1, r0⟩ := s.at_ i t0 e2
    rw [e1] at q1
    cases q1
    obtain ⟨a, dx, vs, S, h1, h2, h3, h4⟩ := sb.cell r0 (k := k) (ts := ts) rfl
    subst h1
    exact ⟨a, dx, vs, rfl, h2, h4.len, fun j w t' g1 g2 => .inr (.inr ⟨i, v0, t0, rfl, e1, e2, sb.snoc h2 (fun b fb => (h3 b fb).1) g1 g2⟩)⟩
end
section
variable {X : Cx} {W : WX} {M Ma Mb IO : List Nat} {e a b : Expr} {pa pb : SemP} {q : SemE} {ra rb root : Option Nat} {pos : Pos}
end
section
variable {K : PySem.W.Frag} {H : Hp} {ow : Ow} {l : Lab}
theorem Tps.snoc : ∀ {vs : List V} {ts : List T} {S S1 : Addr → Prop} {w : V} {u : T}, Tps K H ow l vs ts S → Tp K H ow l w u S1 → (∀ b, S1 b → ¬ S b) → ∃ S', Tps K H ow l (vs ++ [w]) (ts ++ [u]) S' ∧ ∀ b, S' b → S b ∨ S1 b
  | _, _, _, _, _, _, .nil, r, _ => ⟨_, .cons r .nil (fun _ _ h => h), fun b h => h.elim .inr (fun h => .inl h)⟩
  | _, _, _, _, _, _, .cons (S1 := Sa) (S2 := Sb) r s d, r1, h => by
    obtain ⟨S', h1, h2⟩ := Tps.snoc s r1 fun b hb z => h b hb (.inr z)
    refine ⟨_, .cons r h1 fun b ha hb => ?_, fun b hb => ?_⟩
    · rcases h2 b hb with z | z
      · exact d b ha z
      · exact h b z (.inl ha)
    · rcases hb with z | z
      · exact .inl (.inl z)
      · rcases h2 b z with y | y
        · exact .inl (.inr y)
        · exact .inr y
theorem Tp.flat {a dx : Addr} {k : Kd} {vs : List V} {ds : List D} {S : Addr → Prop} (c : Cell H a dx k vs) (f : ∀ b, Foot a dx k b → ow b = l) (r : Tps K H ow l vs (ds.map .fz) S) : Tp K H ow l (.ref a) (.ow k ds) (Foot a dx k) := .ow c f (tps_data r).1
end
section
variable {X : Cx} {W : WX} {M Ma Mb IO : List Nat} {e a b o ix : Expr} {pa pb : SemP} {q qi : SemE} {ra rb root : Option Nat} {pos : Pos}
theorem Plc.own {K : PySem.W.Frag} {H : Hp} {ow : Ow} {σ : L2.St} {env : Env} {n i : Nat} {v : V} {t : T} {pt : List Nat} {k : Kd} {ts : List T} (h : Plc K H ow σ env n (some i) v t pt) (e : t.kids = some (k, ts)) : ∃ v0 t0, σ[i]? = some (some v0) ∧ env[i]? = some (some t0) ∧ Sub K H ow (.sl i) v0 t0 pt v t := by
  rcases h with ⟨d, rfl, _⟩ | ⟨z, _⟩ | ⟨i', v0, t0, z, e1, e2, sb⟩
  · cases e
  · cases z
  · cases z
    exact ⟨v0, t0, e1, e2, sb⟩
end
end QV

set_option Elab.async false
set_option linter.all false
set_option maxRecDepth 100000
set_option maxHeartbeats 2000000
namespace QV
open PySem L2

abbrev SemAT := Env → (List T → Env → Prop) → XQ → Prop
def tAT (K : PySem.W.Frag) (W : WX) (M : List Nat) (m : Nat) (q : SemAT) : TA := fun σ H Qv => ∃ (n : Nat) (ow : Ow) (env : Env) (Q : List T → Env → Prop) (E : XQ), StOk K H ow σ env ∧ q env Q E ∧
  (∀ (vs : List V) (ts : List T) (H' : Hp) (ow' : Ow) (env' : Env), Stp M n H ow H' ow' → StOk K H' ow' σ env' → Out M env env' → vs.length = m → ts.length = m → (∀ (j : Nat) (v : V) (t : T), vs[j]? = some v → ts[j]? = some t → Tq K H' ow' (.tm (n + j)) v t) → Q ts env' → Qv vs H') ∧ Xk K W M σ H n ow env E
structure QAT (X : Cx) (W : WX) (M : List Nat) (k : Nat) (es : List Expr) (q : SemAT) : Prop where
  run : PA X es (tAT X.K W M k q)
section
variable {K : PySem.W.Frag} {H : Hp} {ow : Ow} {n : Nat}
end
section
variable {X : Cx} {W : WX} {M Ma Mb : List Nat} {k : Nat} {e : Expr} {es : List Expr} {q : SemE} {qs : SemAT} {pos : Pos}
end
end QV

set_option Elab.async false
set_option linter.all false
set_option maxRecDepth 100000
set_option maxHeartbeats 2000000
namespace QV
open PySem L2
def tAX (K : PySem.W.Frag) (W : WX) (M : List Nat) (ks : List (Option Nat)) (q : SemAT) : TA := fun σ H Qv => ∃ (n : Nat) (ow : Ow) (env : Env) (Q : List T → Env → Prop) (E : XQ), StOk K H ow σ env ∧ q env Q E ∧
  (∀ (vs : List V) (ts : List T) (H' : Hp) (ow' : Ow) (env' : Env), Stp M n H ow H' ow' → StOk K H' ow' σ env' → Out M env env' → vs.length = ks.length → ts.length = ks.length →
    (∀ (j : Nat) (v : V) (t : T), vs[j]? = some v → ts[j]? = some t → (ks[j]? = some none → Tq K H' ow' (.tm (n + j)) v t) ∧ ∀ i, ks[j]? = some (some i) → σ[i]? = some (some v)) → Q ts env' → Qv vs H') ∧ Xk K W M σ H n ow env E
structure QAX (X : Cx) (W : WX) (M : List Nat) (ks : List (Option Nat)) (es : List Expr) (q : SemAT) : Prop where
  run : PA X es (tAX X.K W M ks q)
section
variable {X : Cx} {W : WX} {M Ma Mb : List Nat} {e : Expr} {es : List Expr} {q : SemE} {qs : SemAT} {ks : List (Option Nat)} {pos : Pos}
end
section
variable {X : Cx} {W : WX} {M : List Nat} {k : Nat} {f : Addr} {fd : FuncData} {ps : List Str} {io cs : List Nat} {spec : SemF} {ks : List (Option Nat)} {e : Expr} {es : List Expr} {qs : SemAT} {x : Str} {p pos : Pos}
end
end QV

set_option Elab.async false
set_option linter.all false
set_option maxRecDepth 100000
set_option maxHeartbeats 2000000
namespace QV
open PySem PySem.Spec PyProof.Rows L2
def flD0 : D → Bool
  | .non => true
  | .bl _ => true
  | .int _ => true
  | .str _ => true
  | _ => false
mutual
def ownT : T → Bool
  | .fz d => flD0 d
  | .ow _ ds => ds.all flD0
  | .nd _ ts => ownTs ts
def ownTs : List T → Bool
  | [] => true
  | t :: ts => ownT t && ownTs ts
end
section
variable {K : PySem.W.Frag} {B B' : Hp}
theorem rp_flat {v : V} {d : D} (r : Rp K B v d) (h : flD0 d = true) : Rp K B' v d := by
  cases r with
  | non => exact .non
  | bl b => exact .bl b
  | int i => exact .int i
  | str x => exact .str x
  | _ => cases h
theorem rps_flat : ∀ {vs : List V} {ds : List D}, Rps K B vs ds → ds.all flD0 = true → Rps K B' vs ds
  | _, _, .nil, _ => .nil
  | _, _, .cons r s, h => by
    rw [List.all_cons, Bool.and_eq_true] at h
    exact .cons (rp_flat r h.1) (rps_flat s h.2)
mutual
theorem Tp.free {H H' : Hp} {ow ow' : Ow} {l l' : Lab} : ∀ {v : V} {t : T} {S : Addr → Prop}, ownT t = true → (∀ a o, S a → H a = some o → ow a = l → H' a = some o ∧ ow' a = l') → Tp K H ow l v t S → Tp K H' ow' l' v t S
  | _, _, _, h, _, .fz r => .fz (rp_flat r (by simpa [ownT] using h))
  | _, _, _, h, k, .ow c f r => .ow (c.at_same fun b o fb q => (k b o fb q (f b fb)).1) (fun b fb => let ⟨o, q⟩ := c.there fb; (k b o fb q (f b fb)).2) (rps_flat r (by simpa [ownT] using h))
  | _, _, _, h, k, .nd c f r => .nd (c.at_same fun b o fb q => (k b o (.inl fb) q (f b fb).1).1)
      (fun b fb => let ⟨o, q⟩ := c.there fb; ⟨(k b o (.inl fb) q (f b fb).1).2, (f b fb).2⟩) (Tps.free (by simpa [ownT] using h) (fun b o s => k b o (.inr s)) r)
theorem Tps.free {H H' : Hp} {ow ow' : Ow} {l l' : Lab} : ∀ {v : List V} {t : List T} {S : Addr → Prop}, ownTs t = true → (∀ a o, S a → H a = some o → ow a = l → H' a = some o ∧ ow' a = l') → Tps K H ow l v t S → Tps K H' ow' l' v t S
  | _, _, _, _, _, .nil => .nil
  | _, t :: ts, _, h, k, .cons r s d => by
    have h' : ownT t = true ∧ ownTs ts = true := by simpa [ownTs] using h
    exact .cons (Tp.free h'.1 (fun b o q => k b o (.inl q)) r) (Tps.free h'.2 (fun b o q => k b o (.inr q)) s) d
end
end
section
variable {X : Cx} {W : WX} {M : List Nat} {k : Nat} {f : Addr} {fd : FuncData} {ps : List Str} {io cs : List Nat} {spec : SemF} {ks : List (Option Nat)} {e : Expr} {es : List Expr} {qs : SemD} {x : Str} {p pos : Pos}
end
end QV

set_option Elab.async false
set_option linter.all false
set_option maxRecDepth 100000
set_option maxHeartbeats 2000000
namespace QV
open PySem L2
def look {κ α : Type} [DecidableEq κ] : List κ → List α → κ → Option α
  | k' :: ks, a :: as, k => if k' = k then some a else look ks as k
  | _, _, _ => none
theorem look_zip {κ : Type} [DecidableEq κ] : ∀ (ks : List κ) (vs : List V) (k : κ), valV (ks.zip vs) k = look ks vs k
  | [], vs, k => by simp [look, valV]
  | k' :: ks, [], k => by simp [look, valV]
  | k' :: ks, v :: vs, k => by
    rw [List.zip_cons_cons]
    by_cases e : k' = k
    · rw [valV_pos e, look, if_pos e]
    · rw [valV_neg e, look, if_neg e, look_zip ks vs k]
section
variable {K : PySem.W.Frag} {B : Hp}
theorem Rps.look {κ : Type} [DecidableEq κ] : ∀ {ks : List κ} {vs : List V} {ds : List D} {k : κ}, Rps K B vs ds → (QV.look ks ds k = none ∧ QV.look ks vs k = none) ∨ ∃ d v, QV.look ks ds k = some d ∧ QV.look ks vs k = some v ∧ Rp K B v d
  | [], _, _, _, .nil => .inl ⟨rfl, rfl⟩
  | [], _, _, _, .cons _ _ => .inl ⟨rfl, rfl⟩
  | k' :: ks, _, _, k, .nil => .inl ⟨rfl, rfl⟩
  | k' :: ks, _, _, k, .cons (d := d) (v := v) r s => by
    by_cases e : k' = k
    · exact .inr ⟨d, v, by rw [QV.look, if_pos e], by rw [QV.look, if_pos e], r⟩
    · rcases Rps.look (ks := ks) (k := k) s with ⟨h1, h2⟩ | ⟨d, v, h1, h2, h3⟩
      · exact .inl ⟨by rw [QV.look, if_neg e, h1], by rw [QV.look, if_neg e, h2]⟩
      · exact .inr ⟨d, v, by rw [QV.look, if_neg e, h1], by rw [QV.look, if_neg e, h2], h3⟩
end
def keyD : D → Option Key
  | .int i => some (Sum.inl i)
  | .str x => some (Sum.inr x)
  | _ => none
def keysD : List D → Option (List Key)
  | [] => some []
  | d :: ds => match keyD d, keysD ds with
    | some k, some ks => some (k :: ks)
    | _, _ => none
def shK : T → Option (List Key × List D)
  | .fz (.nd (.dK ks) ds) => some (ks, ds)
  | .ow (.dK ks) ds => some (ks, ds)
  | _ => none
def shKT : T → Option (List (List Key) × List D)
  | .fz (.nd (.dT ks) ds) => some (ks, ds)
  | .ow (.dT ks) ds => some (ks, ds)
  | _ => none
section
variable {K : PySem.W.Frag} {H : Hp} {ow : Ow}
theorem rp_key {B : Hp} {y : V} {d : D} {k : Key} (r : Rp K B y d) (h : keyD d = some k) : y = kV k := by
  cases r <;> cases h <;> rfl
theorem rps_keys {B : Hp} : ∀ {vs : List V} {ds : List D} {ks : List Key}, Rps K B vs ds → keysD ds = some ks → vs = ks.map kV
  | _, _, ks, .nil, h => by cases h; rfl
  | _, _, ks, .cons (d := d) (ds := ds) r s, h => by
    simp only [keysD] at h
    split at h
    · rename_i k ks' e1 e2
      cases h
      rw [rp_key r e1, rps_keys s e2]
      rfl
    · cases h
theorem Ro.key {y : V} {d : D} {k : Key} (r : Ro K H ow y (.fz d)) (h : keyD d = some k) : y = kV k := rp_key r.rd h
theorem Ro.keyT {y : V} {t : T} {ds : List D} {ks : List Key} (r : Ro K H ow y t) (e : t = .fz (.nd .tup ds)) (h : keysD ds = some ks) : ∃ b, y = .ref b ∧ H b = some (.tup (ks.map kV)) := by
  subst e
  obtain ⟨l, r⟩ := r
  cases Tq.fz_.mp r with
  | tup c z r => exact ⟨_, rfl, by rw [← rps_keys r h]; exact bs_same H ow _ _ c⟩
  | cell hn _ _ => exact absurd rfl hn
theorem Ro.dK {x : V} {t : T} {ks : List Key} {ds : List D} (h : Ro K H ow x t) (e : shK t = some (ks, ds)) : ∃ a vs, x = .ref a ∧ H a = some (.dK (ks.zip vs)) ∧ ks.length = vs.length ∧ vs.length ≤ sizeLine ∧ Rps K (Bs H ow) vs ds := by
  unfold shK at e
  split at e
  · cases e
    obtain ⟨l, h⟩ := h
    cases Tq.fz_.mp h with
    | cell _ c r => exact ⟨_, _, rfl, bs_same H ow _ _ c.at_, c.fit, c.sz, r⟩
  · cases e
    obtain ⟨l, S, h⟩ := h
    cases h with
    | ow c _ r => exact ⟨_, _, rfl, c.at_, c.fit, c.sz, r⟩
  · cases e
theorem Ro.dT {x : V} {t : T} {ks : List (List Key)} {ds : List D} (h : Ro K H ow x t) (e : shKT t = some (ks, ds)) : ∃ a vs, x = .ref a ∧ H a = some (.dT (ks.zip vs)) ∧ ks.length = vs.length ∧ vs.length ≤ sizeLine ∧ Rps K (Bs H ow) vs ds := by
  unfold shKT at e
  split at e
  · cases e
    obtain ⟨l, h⟩ := h
    cases Tq.fz_.mp h with
    | cell _ c r => exact ⟨_, _, rfl, bs_same H ow _ _ c.at_, c.fit, c.sz, r⟩
  · cases e
    obtain ⟨l, S, h⟩ := h
    cases h with
    | ow c _ r => exact ⟨_, _, rfl, c.at_, c.fit, c.sz, r⟩
  · cases e
def dGet (t u : T) : Option (Option D) := match t, u with
  | .fz (.nd (.dK ks) ds), .fz d => (keyD d).map fun k => look ks ds k
  | .ow (.dK ks) ds, .fz d => (keyD d).map fun k => look ks ds k
  | .fz (.nd (.dT ks) ds), .fz (.nd .tup es) => (keysD es).map fun k => look ks ds k
  | .ow (.dT ks) ds, .fz (.nd .tup es) => (keysD es).map fun k => look ks ds k
  | _, _ => none
theorem dget_of {x y : V} {t u : T} {o : Option D} (rx : Ro K H ow x t) (ry : Ro K H ow y u) (h : dGet t u = some o) : ∃ a r, x = .ref a ∧ DGet H a y r ∧ IsD H a ∧ ((o = none ∧ r = none) ∨ ∃ d v, o = some d ∧ r = some v ∧ Rp K (Bs H ow) v d) := by
  have kk : ∀ {ks : List Key} {ds : List D} {d : D}, shK t = some (ks, ds) → u = .fz d → ((keyD d).map fun k => look ks ds k) = some o → ∃ a r, x = .ref a ∧ DGet H a y r ∧ IsD H a ∧ ((o = none ∧ r = none) ∨ ∃ d v, o = some d ∧ r = some v ∧ Rp K (Bs H ow) v d) := fun {ks ds d} e1 e2 e3 => by
    subst e2
    obtain ⟨a, vs, rfl, c, hl, hz, r⟩ := rx.dK e1
    cases ek : keyD d with
    | none => rw [ek] at e3; cases e3
    | some k =>
      rw [ek] at e3
      cases e3
      have ey := ry.key ek
      subst ey
      refine ⟨a, _, rfl, DGet.k c, .inl ⟨_, .inl c⟩, ?_⟩
      rw [look_zip]
      exact r.look
  have kt : ∀ {ks : List (List Key)} {ds es : List D}, shKT t = some (ks, ds) → u = .fz (.nd .tup es) → ((keysD es).map fun k => look ks ds k) = some o → ∃ a r, x = .ref a ∧ DGet H a y r ∧ IsD H a ∧ ((o = none ∧ r = none) ∨ ∃ d v, o = some d ∧ r = some v ∧ Rp K (Bs H ow) v d) := fun {ks ds es} e1 e2 e3 => by
    obtain ⟨a, vs, rfl, c, hl, hz, r⟩ := rx.dT e1
    cases ek : keysD es with
    | none => rw [ek] at e3; cases e3
    | some k =>
      rw [ek] at e3
      cases e3
      obtain ⟨b, rfl, hb⟩ := ry.keyT e2 ek
      refine ⟨a, _, rfl, DGet.t c hb, .inr ⟨_, .inl c⟩, ?_⟩
      rw [look_zip]
      exact r.look
  unfold dGet at h
  split at h
  · exact kk rfl rfl h
  · exact kk rfl rfl h
  · exact kt rfl rfl h
  · exact kt rfl rfl h
  · cases h
end
def rIxA (K : PySem.W.Frag) : R2 := fun x y H Q => rIx K x y H Q ∨ ∃ a v, x = .ref a ∧ DGet H a y (some v) ∧ Q v H
theorem ix_dict {X : Cx} (hu : X.A.units + 1 < cLine) : IxR X (fun x y H Q => ∃ a v, x = .ref a ∧ DGet H a y (some v) ∧ Q v H) := by
  intro value slice pins s σ H x y v u Q I rx ry h hs
  obtain ⟨a, r, rfl, g, q⟩ := h
  obtain rfl : v = Value.ref a := rx
  exact PyProof.Rows.tail_any (dict_typeIs I g) slot_dict_getitem.lookup (d_getItem hu I g ry fun w' s3 I3 rw' => ⟨r, H, I3, rw', q⟩) hs
theorem ix_all {X : Cx} (hu : X.A.units + 65 < cLine) : IxR X (rIxA X.K) := ix_seq.or (ix_dict (by omega))
def ixA (t u : T) (Q : T → Prop) : Prop := match t with
  | .fz (.nd (.dK ks) ds) => ∃ d, dGet (.fz (.nd (.dK ks) ds)) u = some (some d) ∧ Q (.fz d)
  | .fz (.nd (.dT ks) ds) => ∃ d, dGet (.fz (.nd (.dT ks) ds)) u = some (some d) ∧ Q (.fz d)
  | .ow (.dK ks) ds => ∃ d, dGet (.ow (.dK ks) ds) u = some (some d) ∧ Q (.fz d)
  | .ow (.dT ks) ds => ∃ d, dGet (.ow (.dT ks) ds) u = some (some d) ∧ Q (.fz d)
  | t => ixG t u Q
theorem g_ixA {K : PySem.W.Frag} : Op2 K (rIxA K) ixA := by
  intro H ow n x y t u Q Qv rx ry h k
  have dd : (∃ d, dGet t u = some (some d) ∧ Q (.fz d)) → rIxA K x y H Qv := fun ⟨d, h1, q⟩ => by
    obtain ⟨a, r, rfl, g, _, hr⟩ := dget_of rx ry h1
    rcases hr with ⟨z, _⟩ | ⟨d', v, e1, rfl, rv⟩
    · cases z
    · cases e1
      exact .inr ⟨a, v, rfl, g, k _ _ H ow Stp.refl (Tq.fz_.mpr rv) q⟩
  unfold ixA at h
  split at h
  · exact dd h
  · exact dd h
  · exact dd h
  · exact dd h
  · exact .inl (g_ix H ow n x y t u Q Qv rx ry h k)
def rInB (K : PySem.W.Frag) (neg : Bool) : R2 := fun x y H Q => rInAll K neg x y H Q ∨ (∃ d ds, Dp K H x d ∧ Dp K H y (.tuple ds) ∧ SeqAt.shaped d = true ∧ SeqAt.shaped (.tuple ds) = true ∧ Q (.bl (if neg then !ds.any (fun z => PyData.eqv z d) else ds.any fun z => PyData.eqv z d)) H) ∨
  ∃ a o, y = .ref a ∧ DGet H a x o ∧ Q (.bl (if neg then !o.isSome else o.isSome)) H
theorem op_niT {X : Cx} (hu : X.A.units + 65 < cLine) : OpR X (compareOp .NotIn) (fun x y H Q => ∃ d ds, Dp X.K H x d ∧ Dp X.K H y (.tuple ds) ∧ SeqAt.shaped d = true ∧ SeqAt.shaped (.tuple ds) = true ∧ Q (.bl (!ds.any fun z => PyData.eqv z d)) H) := by
  intro pins s σ H x y v u Q I rx ry h
  obtain ⟨d, ds, hd, he, sd, se, q⟩ := h
  obtain ⟨as, r1⟩ := Dp.reads I d x v hd rx
  obtain ⟨bs, r2⟩ := Dp.reads I (.tuple ds) y u he ry
  exact SeqAt.notIn_tuple_reads r2 r1 (SeqAt.canLay_of_shaped se) (SeqAt.canLay_of_shaped sd) (PyProof.Rows.room_in_shaped sd hu) ⟨.bl _, H, I, rfl, q⟩
theorem op_niDc {X : Cx} (hu : X.A.units + 65 < cLine) : OpR X (compareOp .NotIn) (fun x y H Q => ∃ a o, y = .ref a ∧ DGet H a x o ∧ Q (.bl (!o.isSome)) H) := by
  intro pins s σ H x y v u Q I rx ry ⟨a, o, e, g, q⟩
  subst e
  obtain rfl : u = Value.ref a := ry
  exact d_notIn (by omega) I g rx fun s3 I3 => ⟨.bl (!o.isSome), H, I3, rfl, q⟩
theorem op_niB {X : Cx} (hu : X.A.units + 65 < cLine) : OpR X (compareOp .NotIn) (rInB X.K true) := (op_niAll hu).or (OpR.or (op_niT hu) (op_niDc hu))
def inA (neg : Bool) (t u : T) (Q : T → Prop) : Prop := match u with
  | .fz (.nd .tup es) => ((flD t.d && es.all flD) = true ∨ (t.d.pl 63 = true ∧ Dspl 63 es = true)) ∧ Q (.fz (.bl (if neg then !es.any (fun z => eqD z t.d) else es.any fun z => eqD z t.d)))
  | .fz (.nd (.dK ks) ds) => ∃ o, dGet (.fz (.nd (.dK ks) ds)) t = some o ∧ Q (.fz (.bl (if neg then !o.isSome else o.isSome)))
  | .fz (.nd (.dT ks) ds) => ∃ o, dGet (.fz (.nd (.dT ks) ds)) t = some o ∧ Q (.fz (.bl (if neg then !o.isSome else o.isSome)))
  | .ow (.dK ks) ds => ∃ o, dGet (.ow (.dK ks) ds) t = some o ∧ Q (.fz (.bl (if neg then !o.isSome else o.isSome)))
  | .ow (.dT ks) ds => ∃ o, dGet (.ow (.dT ks) ds) t = some o ∧ Q (.fz (.bl (if neg then !o.isSome else o.isSome)))
  | u => inG neg t u Q
theorem g_inA {K : PySem.W.Frag} (neg : Bool) : Op2 K (rInB K neg) (inA neg) := by
  intro H ow n x y t u Q Qv rx ry h k
  have dd : (∃ o, dGet u t = some o ∧ Q (.fz (.bl (if neg then !o.isSome else o.isSome)))) → rInB K neg x y H Qv := fun ⟨o, h1, q⟩ => by
    obtain ⟨a, r, rfl, g, _, hr⟩ := dget_of ry rx h1
    refine .inr (.inr ⟨a, r, rfl, g, k _ _ H ow Stp.refl (Tq.fz_.mpr ?_) q⟩)
    have : r.isSome = o.isSome := by
      rcases hr with ⟨rfl, rfl⟩ | ⟨_, _, rfl, rfl, _⟩ <;> rfl
    rw [this]
    exact .bl _
  unfold inA at h
  split at h
  · rename_i es
    obtain ⟨h1 | h1, q⟩ := h
    · exact .inl (g_in neg H ow n x y t _ Q Qv rx ry ⟨h1, q⟩ k)
    · have p1 : (D.nd .tup es).pl 64 = true := by simpa [D.pl] using h1.2
      have hy := ry.rd
      have d1 := Rp.dp (n := 64) (.nd .tup es) hy p1
      have s1 := D.pl_shaped p1 (Nat.le_refl _)
      refine .inr (.inl ⟨t.d.py, Dspy es, rx.rd.dp _ h1.1, by simpa [D.py] using d1, D.pl_shaped h1.1 (by decide), by simpa [D.py] using s1, k _ _ H ow Stp.refl (Tq.fz_.mpr ?_) q⟩)
      rw [pl_any h1.1 es h1.2]
      exact .bl _
  · exact dd h
  · exact dd h
  · exact dd h
  · exact dd h
  · exact .inl (g_in neg H ow n x y t _ Q Qv rx ry h k)
def rLenB (K : PySem.W.Frag) : List V → Hp → VK → Prop := fun xs H Q => rLenAll K xs H Q ∨ ∃ p kvs, xs = [.ref p] ∧ H p = some (.dK kvs) ∧ Q (.int kvs.length) H
theorem c_lenB {X : Cx} : CallR X (.builtin "len") (rLenB X.K) := by
  intro pins s σ H xs us Q I r h
  rcases h with h | ⟨p, kvs, e, c, q⟩
  · exact c_len pins s σ H xs us Q I r h
  · subst e
    obtain ⟨u, rfl, ru⟩ := vals1 r
    cases ru
    exact d_len I (.inl c) fun t s' I' => ⟨.int kvs.length, H, I', ⟨t, rfl⟩, q⟩
def lenA (t : T) (Q : T → Prop) : Prop := match t with
  | .fz (.nd (.dK ks) ds) => Q (.fz (.int ks.length))
  | .ow (.dK ks) ds => Q (.fz (.int ks.length))
  | t => lenG t Q
theorem g_lenB {K : PySem.W.Frag} : Op1 K (fun x H Q => rLenB K [x] H Q) lenA := by
  intro H ow n x t Q Qv rx h k
  have dd : ∀ {ks : List Key} {ds : List D}, shK t = some (ks, ds) → Q (.fz (.int ks.length)) → rLenB K [x] H Qv := fun {ks ds} e q => by
    obtain ⟨a, vs, rfl, c, hl, hz, r⟩ := rx.dK e
    refine .inr ⟨a, _, rfl, c, k _ _ H ow Stp.refl (Tq.fz_.mpr ?_) q⟩
    rw [List.length_zip, ← hl, Nat.min_self]
    exact .int _
  unfold lenA at h
  split at h
  · exact dd rfl h
  · exact dd rfl h
  · exact .inl (g_len H ow n x t Q Qv rx h k)
section
variable {X : Cx} {W : WX} {M Ma Mb : List Nat} {a b : Expr} {pa pb : SemP} {ra rb : Option Nat} {pos : Pos}
theorem q_ixA (hu : X.A.units + 65 < cLine) (ha : QP X W Ma ra a pa) (hb : QP X W Mb rb b pb) (hs : PlainIx b := by exact fun _ _ => rfl) (hr : okR ra Mb = true := by decide) : QE X W (Ma ++ Mb) (.Subscript a b pos) (s2 pa pb ixA) := q_ixR (ix_all hu) g_ixA ha hb hs hr
theorem t_niA (hu : X.A.units + 65 < cLine) (ha : QP X W Ma ra a pa) (hb : QP X W Mb rb b pb) (hr : okR ra Mb = true := by decide) (hm : behindInMarks .NotIn b = false := by rfl) : QT X W (Ma ++ Mb) (.Compare a [.NotIn] [b] pos) (sT (s2 pa pb (inA true))) := t_cmpR (op_niB hu) (g_inA true) ha hb hm hr
end
end QV

set_option Elab.async false
set_option linter.all false
set_option maxRecDepth 100000
set_option maxHeartbeats 2000000
namespace QV
open PySem PySem.Spec PyProof.Rows L2
inductive LcT (g : SemG) (t : SemT) (q : SemE) (vs : List Nat) (Q : T → Env → Prop) (ds : List D) (env1 : Env) : Prop
  | mk (h : ∃ I : Nat → List T → Env → Prop, I 0 [] env1 ∧
  (∀ j d acc env', ds[j]? = some d → I j acc env' → g d (wipeE env' vs) fun env2 => t env2 (fun b env3 => (b = true → q env3 (fun w env4 => I (j + 1) (acc ++ [w]) (rstE env' vs env4)) noX) ∧ (b = false → I (j + 1) acc (rstE env' vs env3))) noX) ∧ ∀ acc env', I ds.length acc env' → Q (.nd .lst acc) env')
  | no (h : False)
theorem LcT.ex {g : SemG} {t : SemT} {q : SemE} {vs : List Nat} {Q : T → Env → Prop} {ds : List D} {env1 : Env} : LcT g t q vs Q ds env1 → ∃ I : Nat → List T → Env → Prop, I 0 [] env1 ∧
  (∀ j d acc env', ds[j]? = some d → I j acc env' → g d (wipeE env' vs) fun env2 => t env2 (fun b env3 => (b = true → q env3 (fun w env4 => I (j + 1) (acc ++ [w]) (rstE env' vs env4)) noX) ∧ (b = false → I (j + 1) acc (rstE env' vs env3))) noX) ∧ ∀ acc env', I ds.length acc env' → Q (.nd .lst acc) env'
  | .mk h => h
  | .no h => h.elim
theorem LcT.fr {g : SemG} {t : SemT} {q : SemE} {vs : List Nat} {Q : T → Env → Prop} {ds : List D} {env : Env} (ms : List Nat) (I : Nat → List T → List (Option T) → Prop) (h0 : ∃ us, env = putE env ms us ∧ I 0 [] us)
    (hs : ∀ j d acc us, ds[j]? = some d → I j acc us → g d (wipeE (putE env ms us) vs) fun env2 => t env2 (fun b env3 => (b = true → q env3 (fun w env4 => ∃ us', rstE (putE env ms us) vs env4 = putE env ms us' ∧ I (j + 1) (acc ++ [w]) us') noX) ∧ (b = false → ∃ us', rstE (putE env ms us) vs env3 = putE env ms us' ∧ I (j + 1) acc us')) noX) (he : ∀ acc us, I ds.length acc us → Q (.nd .lst acc) (putE env ms us)) : LcT g t q vs Q ds env :=
  .mk ⟨fun j acc e => ∃ us, e = putE env ms us ∧ I j acc us, h0, fun j d acc env' hd ⟨us, e, i⟩ => by subst e; exact hs j d acc us hd i, fun acc env' ⟨us, e, i⟩ => by subst e; exact he acc us i⟩
section
variable {X : Cx} {W : WX} {Mi Mt Me M IO SS : List Nat} {elt tg iter e : Expr} {ifs : List Expr} {scope : Scope} {own : List (Str × Nat)} {pos spos py : Pos} {qi : SemI} {g : SemG} {t : SemT} {q : SemE} {y : Str} {i : Nat}
end
end QV

set_option Elab.async false
set_option linter.all false
set_option maxRecDepth 100000
set_option maxHeartbeats 2000000
namespace QV
open PySem PySem.Spec PyProof.Rows L2
section
variable {K : PySem.W.Frag} {B H : Hp} {ow : Ow} {σ : L2.St} {env : Env} {i n : Nat}
end
section
variable {X : Cx} {W : WX} {Ma Mb IO : List Nat} {e ix : Expr} {q qi : SemE} {x : Str} {px tpos pos : Pos}
end
end QV

set_option Elab.async false
set_option linter.all false
set_option maxRecDepth 100000
set_option maxHeartbeats 2000000
namespace QV
open PySem PySem.Spec PyProof.Rows L2
def dd (ns : List Int) : List Int := PyProof.Rows.firstMet (fun i => ns.getD i 0) ns.length
section
variable {X : Cx} {W : WX} {M : List Nat} {root : Option Nat} {pa : SemP}
end
end QV

set_option Elab.async false
set_option linter.all false
set_option maxRecDepth 100000
set_option maxHeartbeats 2000000
namespace QV
open PySem L2
end QV

set_option Elab.async false
set_option linter.all false
set_option maxRecDepth 100000
set_option maxHeartbeats 2000000
namespace L2
open PySem PySem.Spec PyProof.Rows
section
variable {X : Cx}
end
end L2
namespace QV
open PySem PySem.Spec PyProof.Rows L2
section
variable {X : Cx} {W : WX} {M Ma Mb Mc : List Nat} {o e f : Expr} {pa : SemP} {qb qc : SemE} {ra : Option Nat} {apos cpos : Pos}
end
abbrev SemPr := Env → (List Key → List D → Env → Prop) → XQ → Prop
def tPr (K : PySem.W.Frag) (W : WX) (M : List Nat) (q : SemPr) (σ : L2.St) (H : Hp) (Qv : List (V × V) → Hp → Prop) : Prop := ∃ (n : Nat) (ow : Ow) (env : Env) (Q : List Key → List D → Env → Prop) (E : XQ), StOk K H ow σ env ∧ q env Q E ∧
  (∀ (vs : List V) (ks : List Key) (ds : List D) (H' : Hp) (ow' : Ow) (env' : Env), Stp M n H ow H' ow' → StOk K H' ow' σ env' → Out M env env' → ks.length = vs.length → Rps K (Bs H' ow') vs ds → Q ks ds env' → Qv ((ks.map kV).zip vs) H') ∧ Xk K W M σ H n ow env E
structure QPr (X : Cx) (W : WX) (M : List Nat) (pos : Pos) (ks : List (Option Expr)) (vs : List Expr) (q : SemPr) : Prop where
  run : ∃ trs, PPs X pos ks vs trs ∧ ∀ σ H Qv, tPr X.K W M q σ H Qv → tPairs trs σ H Qv
section
variable {X : Cx} {W : WX} {M Ma Mb Mc : List Nat} {o e f : Expr} {ks : List (Option Expr)} {vs : List Expr} {qk qv : SemE} {qr : SemPr} {pos : Pos}
end
section
variable {X : Cx} {W : WX} {M : List Nat} {e : Expr} {x : Str} {px : Pos}
end
section
variable {K : PySem.W.Frag} {B : Hp}
end
section
variable {X : Cx} {W : WX} {M : List Nat} {e : Expr} {pa : SemP} {root : Option Nat} {p pos : Pos}
end
end QV

set_option Elab.async false
set_option linter.all false
set_option maxRecDepth 100000
set_option maxHeartbeats 2000000
namespace QV
open PySem PySem.Spec PyProof.Rows L2
open Classical in
noncomputable def Ow.mvS (ow : Ow) (S : Addr → Prop) (l : Lab) : Ow := fun b => if S b then l else ow b
abbrev SemGT := List T → Env → (Env → Prop) → Prop
def tGT (K : PySem.W.Frag) (SS : List Nat) (g : SemGT) : TGs := fun vs σ H Q => ∃ (ow : Ow) (env : Env) (ts : List T) (S : Addr → Prop) (k : Env → Prop), StOk K H ow σ env ∧ Tps K H ow (.tm 0) vs ts S ∧ g ts env k ∧
  ∀ σ' env' ow', Stp [] 0 H ow H ow' → Tch SS σ σ' → StOk K H ow' σ' env' → k env' → Q σ' H
structure QGT (X : Cx) (SS : List Nat) (tg : List Expr) (g : SemGT) : Prop where
  run : PGs X tg (tGT X.K SS g)
section
variable {X : Cx} {SS S1 S2 IO : List Nat} {es : List Expr} {g : SemGT} {pos : Pos}
end
end QV

set_option Elab.async false
set_option linter.all false
set_option maxRecDepth 100000
set_option maxHeartbeats 2000000
namespace QV
open PySem PySem.Spec PyProof.Rows L2
section
variable {X : Cx} {W : WX} {Ma Mb : List Nat} {a b : Expr} {pa pb : SemP} {ra rb : Option Nat} {pos : Pos}
end
end QV

set_option Elab.async false
set_option linter.all false
set_option maxRecDepth 100000
set_option maxHeartbeats 2000000
namespace QV
open PySem PySem.Spec PyProof.Rows L2
def keyOf : Key → D
  | .inl i => .int i
  | .inr x => .str x
section
variable {X : Cx} {W : WX} {M : List Nat} {e : Expr} {pa : SemP} {root : Option Nat} {p pos : Pos}
end
end QV

set_option Elab.async false
set_option linter.all false
set_option maxRecDepth 100000
set_option maxHeartbeats 2000000
namespace QV
open PySem PySem.Spec PyProof.Rows L2
mutual
def okD : D → Bool
  | .nd .tup ds => okDs ds
  | .nd .lst [] => true
  | .nd .lst (d :: ds) => !flD0 d && okDs (d :: ds)
  | d => flD0 d
def okDs : List D → Bool
  | [] => true
  | d :: ds => okD d && okDs ds
end
section
variable {K : PySem.W.Frag} {B B' : Hp}
def badO (o : HO) : Prop := ∃ (v : V) (vs : List V), o = .lst (v :: vs) ∧ ∀ a : Addr, v ≠ .ref a
theorem rp_ref {v : V} {d : D} (r : Rp K B v d) (h : flD0 d = false) : ∃ a, v = .ref a := by
  cases r with
  | non => cases h
  | bl b => cases h
  | int i => cases h
  | str x => cases h
  | _ => exact ⟨_, rfl⟩
mutual
theorem rp_keep (e : ∀ a o, B a = some o → ¬ badO o → B' a = some o) : ∀ {v : V} {d : D}, Rp K B v d → okD d = true → Rp K B' v d
  | _, _, .non, _ => .non
  | _, _, .bl b, _ => .bl b
  | _, _, .int i, _ => .int i
  | _, _, .str x, _ => .str x
  | _, _, .scr _, h => by simp [okD, flD0] at h
  | _, _, .exc0 _ _, h => by simp [okD, flD0] at h
  | _, _, .exc1 _ _ _, h => by simp [okD, flD0] at h
  | _, _, .tup c z r, h => .tup (e _ _ c fun ⟨_, _, q, _⟩ => nomatch q) z (rps_keep e r (by simpa [okD] using h))
  | _, _, .cell (k := k) (vs := vs) (ds := ds) hk c r, h => by
    cases k with
    | lst =>
      have hb : ¬ badO (.lst vs) := fun ⟨v0, vs0, q, nr⟩ => by
        have q : vs = v0 :: vs0 := by cases q; rfl
        subst q
        cases r with
        | cons r0 rs =>
          simp only [okD, Bool.and_eq_true, Bool.not_eq_true'] at h
          obtain ⟨a, ea⟩ := rp_ref r0 h.1
          exact nr a ea
      refine .cell hk ⟨e _ _ c.at_ hb, c.sz, trivial⟩ (rps_keep e r ?_)
      cases ds with
      | nil => rfl
      | cons d ds => simp only [okD, Bool.and_eq_true] at h; exact h.2
    | tup => exact absurd rfl hk
    | dK ks => simp [okD, flD0] at h
    | dT ks => simp [okD, flD0] at h
    | lkT o ks => simp [okD, flD0] at h
    | lsA b => simp [okD, flD0] at h
    | ins C ks => simp [okD, flD0] at h
theorem rps_keep (e : ∀ a o, B a = some o → ¬ badO o → B' a = some o) : ∀ {vs : List V} {ds : List D}, Rps K B vs ds → okDs ds = true → Rps K B' vs ds
  | _, _, .nil, _ => .nil
  | _, _, .cons r s, h => by
    simp only [okDs, Bool.and_eq_true] at h
    exact .cons (rp_keep e r h.1) (rps_keep e s h.2)
end
end
open Classical in
noncomputable def labV (C : Addr → Prop) (ow : Ow) : Ow := fun a => if ow a = .base ∨ C a then .base else .fr
section
variable {X : Cx} {W : WX} {M : List Nat} {k : Nat} {f : Addr} {fd : FuncData} {ps : List Str} {io cs : List Nat} {spec : SemF} {ks : List (Option Nat)} {e : Expr} {es : List Expr} {qs : SemD} {x : Str} {p pos : Pos}
end
end QV

set_option Elab.async false
set_option linter.all false
set_option maxRecDepth 100000
set_option maxHeartbeats 2000000
namespace QV
open PySem PySem.Spec PyProof.Rows L2
def fldG (C : Addr) (f : Str) (t : T) (Q : T → Prop) : Prop := match t with
  | .fz (.nd (.ins C' ks) ds) => C' = C ∧ ∃ d, (ks.zip ds).lookup f = some d ∧ Q (.fz d)
  | .ow (.ins C' ks) ds => C' = C ∧ ∃ d, (ks.zip ds).lookup f = some d ∧ Q (.fz d)
  | _ => False
theorem look_no {α : Type} {f : Str} : ∀ {ks : List Str} {vs : List α}, ks.contains f = false → (ks.zip vs).lookup f = none
  | [], _, _ => by simp
  | k :: ks, [], _ => by simp
  | k :: ks, v :: vs, h => by
    rw [List.contains_cons, Bool.or_eq_false_iff] at h
    rw [List.zip_cons_cons, List.lookup_cons]
    rw [h.1]
    exact look_no (ks := ks) h.2
section
variable {X : Cx} {W : WX} {M Ma Mb : List Nat} {k : Nat} {f C : Addr} {fd : FuncData} {ps : List Str} {io : List Nat} {sp : Sp} {spec : SemF} {ks : List (Option Nat)} {o e : Expr} {es : List Expr} {q : SemE} {qs : SemD} {m x : Str} {p pos apos : Pos} {ta : TE} {t : TA} {pa : SemP} {root : Option Nat}
theorem q_fld (c : Cls X.K C) (hn : NoAttr X.K C x) (ha : QP X W M root e pa) (hb : attributeBase e x X.env (eval e X.env) = eval e X.env := by rfl) : QE X W M (.Attribute e x pos) (s1 pa (fldG C x)) :=
  ⟨PE_imp (pe_fld ha.run hb) fun σ H Qv ⟨n, ow, env, Q, E, s, hq, kk, xx⟩ => ⟨n, ow, env, _, E, s, hq, fun v t pt H' ow' env' y1 s' o r z => by
    have rx : Ro X.K H' ow' v t := r.ro s'
    unfold fldG at z
    split at z
    · obtain ⟨rfl, d, hl, z⟩ := z
      obtain ⟨l, rx⟩ := rx
      cases Tq.fz_.mp rx with
      | cell _ cc rr =>
        obtain ⟨v', h1, h2⟩ := zip_look cc.fit.1 rr hl
        exact ⟨_, _, _, _, v', rfl, (bs_some cc.at_).2, c, hn, h1, kk v' (.fz d) H' ow' env' y1 s' o (Tq.fz_.mpr h2) z⟩
    · obtain ⟨rfl, d, hl, z⟩ := z
      obtain ⟨l, S, rx⟩ := rx
      cases rx with
      | ow cc _ rr =>
        obtain ⟨v', h1, h2⟩ := zip_look cc.fit.1 rr hl
        exact ⟨_, _, _, _, v', rfl, cc.at_, c, hn, h1, kk v' (.fz d) H' ow' env' y1 s' o (Tq.fz_.mpr h2) z⟩
    · exact z.elim, xx⟩⟩
theorem pe_methG {pl : Sem Bool} (he : PE X o ta) (c : Cls X.K C) (hm : Meth X.K C m f) (F : FnG X.prog X.w X.K X.mg X.base k f fd ps sp) (hr : Room k X.A) (hG : X.A.guards = some []) (hb : Binds X.K fd ps []) (tk : L2.Takes X W) (ha : PA X (e :: es) t)
    (hst : starEach (e :: es) X.env = (false, eval e X.env) :: starEach es X.env := by rfl) (hpl : (backTo pos (starEach es X.env)).any (·.1) = false := by rfl)
    (ht : eval (.Call (.Attribute o m apos) (e :: es) [] pos) X.env = (do
      let ov ← eval o X.env
      standAt apos.atName
      let (f, first) ← holding [ov] (getMethod ov m pl)
      callWith pos f first (backTo pos (starEach (e :: es) X.env)) (backToKw pos (keywordEach [] X.env))) := by rfl) :
    PE X (.Call (.Attribute o m apos) (e :: es) [] pos) (fun σ H Q => ta σ H fun x H1 => ∃ a dx fs, x = .ref a ∧ H1 a = some (.ins C dx fs) ∧ fs.lookup m = none ∧ t σ H1 fun vs H2 => sp (x :: vs) H2 Q fun cls d H' => W cls d σ H') := by
  refine ⟨fun pins s σ H Q I h => ?_⟩
  refine PySem.W.methodCall_KW (pl := pl) (thn (he.run pins s σ H _ I h) fun u s1 ⟨x, H1, I1, rx, a, dx, fs, ex, ea, l, q⟩ => ?_) ht
  subst ex
  obtain rfl : u = Value.ref a := rx
  refine getmeth_ok I1 ea c hm l ?_
  refine PySem.W.callWith_K (first := [.ref a]) (h₀ := X.base) I.ok.mod.kin hm.kp (thn (ha.run pos pins s1 σ H1 _ I1 q) fun us s2 ⟨vs, H2, I2, r, q2⟩ => ⟨I2.kIn, ?_⟩) hst hpl
  exact runG (us := .ref a :: us) (vs := .ref a :: vs) F hr hG hb tk I2 (.cons rfl r) q2
theorem pe_methG0 {pl : Sem Bool} (he : PE X o ta) (c : Cls X.K C) (hm : Meth X.K C m f) (F : FnG X.prog X.w X.K X.mg X.base k f fd ps sp) (hr : Room k X.A) (hG : X.A.guards = some []) (hb : Binds X.K fd ps []) (tk : L2.Takes X W)
    (ht : eval (.Call (.Attribute o m apos) [] [] pos) X.env = (do
      let ov ← eval o X.env
      standAt apos.atName
      let (f, first) ← holding [ov] (getMethod ov m pl)
      callWith pos f first (backTo pos (starEach [] X.env)) (backToKw pos (keywordEach [] X.env))) := by rfl) :
    PE X (.Call (.Attribute o m apos) [] [] pos) (fun σ H Q => ta σ H fun x H1 => ∃ a dx fs, x = .ref a ∧ H1 a = some (.ins C dx fs) ∧ fs.lookup m = none ∧ sp [x] H1 Q fun cls d H' => W cls d σ H') := by
  refine ⟨fun pins s σ H Q I h => ?_⟩
  refine PySem.W.methodCall_KW (pl := pl) (thn (he.run pins s σ H _ I h) fun u s1 ⟨x, H1, I1, rx, a, dx, fs, ex, ea, l, q⟩ => ?_) ht
  subst ex
  obtain rfl : u = Value.ref a := rx
  refine getmeth_ok I1 ea c hm l ?_
  exact PySem.W.callWith_K0 (first := [.ref a]) I1.kIn hm.kp (runG (us := [.ref a]) (vs := [.ref a]) F hr hG hb tk I1 (.cons rfl .nil) q)
def CalleeM (P : Program) (w : World) (K : PySem.W.Frag) (mg : Str → Option Value) (base : Heap) (k : Nat) (C : Addr) (m : Str) (ps : List Str) (io : List Nat) (spec : SemF) : Prop := ∃ f fd, QFn P w K mg base k f fd ps io spec ∧ Meth K C m f ∧ Binds K fd ps []
def sMeth (C : Addr) (m : Str) (spec : SemF) (ks : List (Option Nat)) (cs : List Nat) (q : SemE) (qs : SemD) : SemE := fun env Q E => q env (fun t env1 => match t with
  | .fz (.nd (.ins C' fk) d0) => (C' = C ∧ fk.contains m = false) ∧ qs env1 (fun ds env2 => match asm (none :: ks) (.nd (.ins C' fk) d0 :: ds) env2 with
    | some args => spec args (fun t outs => Q t (putO cs outs env2)) (fun r outs => E r (putO cs outs env2))
    | none => False) E
  | _ => False) E
theorem q_meth {pl : Sem Bool} (F : CalleeM X.prog X.w X.K X.mg X.base k C m ps io spec) (c : Cls X.K C) (tk : L2.Takes X W) (hr : Room k X.A) (hG : X.A.guards = some [])
    (h1 : QE X W Ma o q) (h2 : QA X W Mb ks (e :: es) qs) (cs : List Nat) (hio : io.Nodup := by decide) (hK : okK (none :: ks) io cs = true := by decide) (hn : (none :: ks).length = ps.length := by rfl)
    (hst : starEach (e :: es) X.env = (false, eval e X.env) :: starEach es X.env := by rfl) (hpl : (backTo pos (starEach es X.env)).any (·.1) = false := by rfl)
    (ht : eval (.Call (.Attribute o m apos) (e :: es) [] pos) X.env = (do
      let ov ← eval o X.env
      standAt apos.atName
      let (f, first) ← holding [ov] (getMethod ov m pl)
      callWith pos f first (backTo pos (starEach (e :: es) X.env)) (backToKw pos (keywordEach [] X.env))) := by rfl) :
    QE X W ((Ma ++ Mb) ++ cs) (.Call (.Attribute o m apos) (e :: es) [] pos) (sMeth C m spec ks cs q qs) := by
  obtain ⟨f, fd, F, hm, hb⟩ := F
  refine ⟨PE_imp (pe_methG h1.run c hm F hr hG hb tk h2.run hst hpl ht) fun σ H Qv ⟨n, ow, env, Q, E, st, hq, kk, xx⟩ => ⟨n, ow, env, _, E, st, hq, fun v t H1 ow1 env1 y1 s1 o1 r1 z => ?_, fun r d H' ow' env' y s' o => xx r d H' ow' env' (y.mono (fun i h => subl i (subl i h)) (Nat.le_refl _)) s' (o.mono fun i h => subl i (subl i h))⟩⟩
  split at z
  · rename_i C' fk d0
    obtain ⟨⟨rfl, hno⟩, z⟩ := z
    have r1 := Tq.fz_.mp r1
    cases r1 with
    | cell hk cc rr =>
      refine ⟨_, _, _, rfl, (bs_some cc.at_).2, look_no hno, n + 1, ow1, env1, _, E, s1, z, fun vs ds H2 ow2 env2 y2 s2 o2 l1 l2 hv z2 => ?_, xx.step y1 o1 (fun i h => subl i (subl i h)) (fun i h => subl i (subr i h)) (Nat.le_refl _) (Nat.le_succ _)⟩
      split at z2
      · rename_i args ea
        have r2 := (Rp.cell hk cc rr : Rp X.K (Bs H1 ow1) _ (.nd (.ins C' fk) d0)).mono y2.bs
        have yy := y1.trans y2 subl subr (Nat.le_refl _) (Nat.le_succ _)
        have oo := o1.trans o2 subl subr
        refine call_run hio hK hn s2 (by rw [List.length_cons, List.length_cons, l1]) (fun j v' d' ev ed => ?_) (by rw [List.length_cons, List.length_cons, l2]) ea z2 (fun v t H3 ow3 env3 y3 s3 o3 r3 z3 => kk v t H3 ow3 env3 (yy.trans y3 subl subr (Nat.le_refl _) (Nat.le_refl _)) s3 (oo.trans o3 subl subr) r3 z3) (xx.step yy oo subl subr (Nat.le_refl _) (Nat.le_refl _))
        cases j with
        | zero =>
          simp at ev ed
          subst ev ed
          exact ⟨fun _ => r2, fun i hi => by simp at hi⟩
        | succ j => exact hv j v' d' (by simpa using ev) (by simpa using ed)
      · exact z2.elim
  · exact z.elim
def sMeth0 (C : Addr) (m : Str) (spec : SemF) (q : SemE) : SemE := fun env Q E => q env (fun t env1 => match t with
  | .fz (.nd (.ins C' fk) d0) => (C' = C ∧ fk.contains m = false) ∧ spec [.fz (.nd (.ins C' fk) d0)] (fun t outs => Q t env1) (fun r outs => E r env1)
  | _ => False) E
theorem q_meth0 {pl : Sem Bool} (F : CalleeM X.prog X.w X.K X.mg X.base k C m ps [] spec) (c : Cls X.K C) (tk : L2.Takes X W) (hr : Room k X.A) (hG : X.A.guards = some [])
    (h1 : QE X W Ma o q) (hn : 1 = ps.length := by rfl)
    (ht : eval (.Call (.Attribute o m apos) [] [] pos) X.env = (do
      let ov ← eval o X.env
      standAt apos.atName
      let (f, first) ← holding [ov] (getMethod ov m pl)
      callWith pos f first (backTo pos (starEach [] X.env)) (backToKw pos (keywordEach [] X.env))) := by rfl) :
    QE X W Ma (.Call (.Attribute o m apos) [] [] pos) (sMeth0 C m spec q) := by
  obtain ⟨f, fd, F, hm, hb⟩ := F
  refine ⟨PE_imp (pe_methG0 h1.run c hm F hr hG hb tk ht) fun σ H Qv ⟨n, ow, env, Q, E, st, hq, kk, xx⟩ => ⟨n, ow, env, _, E, st, hq, fun v t H1 ow1 env1 y1 s1 o1 r1 z => ?_, xx⟩⟩
  split at z
  · rename_i C' fk d0
    obtain ⟨⟨rfl, hno⟩, z⟩ := z
    have r1 := Tq.fz_.mp r1
    cases r1 with
    | cell hk cc rr =>
      refine ⟨_, _, _, rfl, (bs_some cc.at_).2, look_no hno, ?_⟩
      refine call_run (ks := [none]) (cs := []) (ds := [.nd (.ins C' fk) d0]) (by decide) (by decide) hn s1 rfl (fun j v' d' ev ed => ?_) rfl rfl z (fun v t H3 ow3 env3 y3 s3 o3 r3 z3 => kk v t H3 ow3 env3 (y1.trans y3 (fun _ h => h) nilsub (Nat.le_refl _) (Nat.le_refl _)) s3 (o1.trans o3 (fun _ h => h) nilsub) r3 z3) (xx.step y1 o1 (fun _ h => h) nilsub (Nat.le_refl _) (Nat.le_refl _))
      cases j with
      | zero =>
        simp at ev ed
        subst ev ed
        exact ⟨fun _ => .cell hk cc rr, fun i hi => by simp at hi⟩
      | succ j => simp at ev
  · exact z.elim
end
end QV

set_option Elab.async false
set_option linter.all false
set_option maxRecDepth 100000
set_option maxHeartbeats 2000000
namespace QV
open PySem PySem.Spec PyProof.Rows L2
def fK : List Str → Str → List Str
  | [], f => [f]
  | g :: r, f => if g = f then g :: r else g :: fK r f
def fV {α : Type} : List Str → List α → Str → α → List α
  | [], _, _, v => [v]
  | g :: r, x :: xs, f, v => if g = f then v :: xs else x :: fV r xs f v
  | _ :: _, [], _, _ => []
theorem fput_zip {f : Str} {v : V} : ∀ {ks : List Str} {vs : List V}, ks.length = vs.length → putF f v (ks.zip vs) = (fK ks f).zip (fV ks vs f v)
  | [], [], _ => rfl
  | g :: r, x :: xs, h => by
    have ih := fput_zip (f := f) (v := v) (ks := r) (vs := xs) (by simpa using h)
    rw [List.zip_cons_cons, putF, fK, fV]
    by_cases e : g = f
    · rw [if_pos e, if_pos e, if_pos e, List.zip_cons_cons]
    · rw [if_neg e, if_neg e, if_neg e, List.zip_cons_cons, ih]
theorem fput_len {α : Type} {f : Str} {v : α} : ∀ {ks : List Str} {vs : List α}, ks.length = vs.length → (fK ks f).length = (fV ks vs f v).length ∧ (fV ks vs f v).length ≤ vs.length + 1
  | [], [], _ => ⟨rfl, by simp [fV]⟩
  | g :: r, x :: xs, h => by
    have ih := fput_len (f := f) (v := v) (ks := r) (vs := xs) (by simpa using h)
    rw [fK, fV]
    by_cases e : g = f
    · rw [if_pos e, if_pos e]; exact ⟨by simpa using h, by simp⟩
    · rw [if_neg e, if_neg e]; exact ⟨by simp [ih.1], by simp; exact ih.2⟩
section
variable {K : PySem.W.Frag} {B H : Hp} {ow : Ow} {σ : L2.St} {env : Env} {i n : Nat}
theorem rps_fput {f : Str} {v : V} {d : D} (rv : Rp K B v d) : ∀ {ks : List Str} {vs : List V} {ds : List D}, Rps K B vs ds → ks.length = vs.length → Rps K B (fV ks vs f v) (fV ks ds f d)
  | [], _, _, _, _ => .cons rv .nil
  | g :: r, _ :: _, _ :: _, .cons r0 s, h => by
    rw [fV, fV]
    by_cases e : g = f
    · rw [if_pos e, if_pos e]; exact .cons rv s
    · rw [if_neg e, if_neg e]; exact .cons r0 (rps_fput rv s (by simpa using h))
theorem own_atI {C : Addr} {ks : List Str} {ds : List D} (s : StOk K H ow σ env) (e : env[i]? = some (some (.ow (.ins C ks) ds))) : ∃ a dx vs, σ[i]? = some (some (.ref a)) ∧ Cell H a dx (.ins C ks) vs ∧ Rps K (Bs H ow) vs ds ∧ ow a = .sl i ∧ ow dx = .sl i := by
  obtain ⟨v, e1, S, r⟩ := s.at_ i _ e
  cases r with
  | ow c f r => exact ⟨_, _, _, e1, c, r, f _ (.inl rfl), f _ (.inr rfl)⟩
theorem own_setI {a dx C : Addr} {ks' : List Str} {ds' : List D} {vs' : List V} (hc : ∀ ws, H a ≠ some (.tup ws)) (s : StOk K H ow σ env) (e1 : σ[i]? = some (some (.ref a))) (eo : ow a = .sl i) (ed : ow dx = .sl i) (hx : H dx = some (.own a)) (hne : dx ≠ a) (hz : vs'.length ≤ sizeLine) (hf : ks'.length = vs'.length) (r : Rps K (Bs H ow) vs' ds') :
    Stp [i] n H ow (upd H a (.ins C dx (ks'.zip vs'))) ow ∧ StOk K (upd H a (.ins C dx (ks'.zip vs'))) ow σ (env.set i (some (.ow (.ins C ks') ds'))) ∧ Out [i] env (env.set i (some (.ow (.ins C ks') ds'))) := by
  have y : ∀ {m : Nat}, Stp [i] m H ow (upd H a (.ins C dx (ks'.zip vs'))) ow := fun {m} => ⟨fun b o e q => by
    have ne : b ≠ a := fun z => by
      rw [z, eo] at q
      exact absurd (show i ∈ [i] by simp) q
    exact ⟨by rw [upd_ne ne]; exact e, rfl⟩, fun b ws e => by
    have ne : b ≠ a := fun z => hc ws (z ▸ e)
    rw [upd_ne ne]; exact e⟩
  refine ⟨y, s.stp (y (m := 0)) Out.set1 fun j t hj e => ?_, Out.set1⟩
  have ej : j = i := by simpa using hj
  subst ej
  have hl : j < env.length := by
    rw [s.len]
    exact (List.getElem?_eq_some_iff.mp e1).1
  rw [List.getElem?_set_self hl] at e
  cases e
  exact ⟨_, e1, _, .ow (k := .ins C ks') (dx := dx) ⟨upd_same, hz, hf, by rw [upd_ne hne]; exact hx, hne⟩ (fun b fb => by
    rcases fb with rfl | rfl
    · exact eo
    · exact ed) (r.mono (y (m := 0)).bs)⟩
end
def sFSt (C : Addr) (i : Nat) (f : Str) (q : SemE) : SemS := fun D env => q env (fun t env1 => match t, env1[i]? with
  | .fz d, some (some (.ow (.ins C' ks) ds)) => C' = C ∧ ks.length < 1000 ∧ D.nx (env1.set i (some (.ow (.ins C (fK ks f)) (fV ks ds f d))))
  | _, _ => False) D.ex
section
variable {X : Cx} {W : WX} {M Ma Mb IO : List Nat} {k : Nat} {f C : Addr} {fd : FuncData} {ps : List Str} {sp : Sp} {spec : SemF} {ks : List (Option Nat)} {e ix : Expr} {es : List Expr} {q qi : SemE} {qs : SemD} {x m : Str} {px tpos pos p : Pos} {t : TA}
theorem s_fld (i : Nat) (c : Cls X.K C) (hn : NoAttr X.K C m) (he : QE X W Ma e q) (hN : X.N[i]? = some x := by rfl) (hv : Vis X.env.scope x := by first | exact Or.inl rfl | exact Or.inr (Or.inl rfl) | exact Or.inr (Or.inr rfl)) (hd : (x == ("__debug__" : Str)) = false := by decide)
    (hcd : (x == ("__classdict__" : Str)) = false := by decide) (hs : swapsWith e (some (.Attribute (.Name x px) m tpos)) pos.line X.env = pure false := by rfl) : QS X W IO (.Assign [.Attribute (.Name x px) m tpos] e pos) (sFSt C i m q) :=
  ⟨PS_imp (ps_fld (pe_var (i := i) hN hv hd hcd) he.run hs) fun D σ H ⟨ow, env, De, s, hq, k⟩ => ⟨0, ow, env, _, De.ex, s, hq, fun v t H1 ow1 env1 y1 s1 _ r1 z => by
    split at z
    · rename_i d C' ks ds e2
      obtain ⟨rfl, hl, z⟩ := z
      obtain ⟨a, dx, vs, e1, cc, rr, eo, ed⟩ := own_atI s1 e2
      have hlen := fput_len (f := m) (v := v) cc.fit.1
      refine ⟨.ref a, e1, a, _, dx, _, rfl, cc.at_, c, hn, ?_, ?_⟩
      · show (ks.zip vs).length < 1000
        rw [List.length_zip]; omega
      · rw [fput_zip cc.fit.1]
        obtain ⟨y3, s3, _⟩ := own_setI (n := 0) (C := C') (ks' := fK ks m) (fun ws z => by rw [cc.at_] at z; cases z) s1 e1 eo ed cc.fit.2.1 cc.fit.2.2 (by
          have h1 := cc.fit.1
          exact Nat.le_trans hlen.2 (Nat.le_trans (show vs.length + 1 ≤ 1000 by omega) (by decide))) hlen.1 (rps_fput (Tq.fz_.mp r1) rr cc.fit.1)
        exact k.nx _ _ _ _ (y1.fs.trans y3.fs) Ios.refl s3 z
    · exact z.elim, k.ex.xk⟩⟩
theorem runMakeG {pins : List (Addr × Obj)} {σ : L2.St} {H : Hp} {s : Shared} {Q : VK} {us : List Value} {vs : List V} (M : Mk X.K C f) (F : FnG X.prog X.w X.K X.mg X.base k f fd ps sp) (hr : Room (k + 1) X.A) (hG : X.A.guards = some []) (hb : Binds X.K fd ps []) (tk : L2.Takes X W)
    (I : Inv X pins σ H s) (r : Vals vs us) (h : ∀ x dx, H x = none → H dx = none → dx ≠ x → sp (.ref x :: vs) (upd (upd H dx (.own x)) x (.ins C dx [])) (fun v H2 => v = .non ∧ Q (.ref x) H2) fun cls d H' => W cls d σ H') :
    wpAny (model X.prog X.w) X.A (call (.ref C) us) (EP X pins σ Q) X.xe s := by
  have hq := h (s.heap.objs.size + 1) s.heap.objs.size (I.hok.fresh (Nat.le_succ _)) (I.hok.fresh (Nat.le_refl _)) (Nat.ne_of_lt (Nat.lt_succ_self _))
  have I2 := Inv.made (C := C) I
  have r2 : Vals (V.ref (s.heap.objs.size + 1) :: vs) (Value.ref (s.heap.objs.size + 1) :: us) := .cons rfl r
  have hl : ((Value.ref (s.heap.objs.size + 1) :: us) ++ []).length = ps.length := by rw [List.append_nil, ← r2.length]; exact F.len _ _ _ _ hq
  have hb2 := hb _ (Value.ref (s.heap.objs.size + 1) :: us) I2.kIn hl
  rw [List.append_nil] at hb2
  refine wpAny_call (make_map (f := f) I.kIn M.makes M.init (beq_iff_eq.mp M.fn) (codeAny_mono (F.run _ X.stack _ _ ⟨Value.ref (s.heap.objs.size + 1) :: us, []⟩ (Value.ref (s.heap.objs.size + 1) :: us) _ _ _ (hr.make C us []) hG (I2.env0.make C us []) hb2 r2 hq) fun r s' hq' => ?_))
  cases r with
  | error e => exact tk _ _ (XE.of_call I2 (fun _ _ _ q => q) hq')
  | ok fl =>
    cases fl with
    | ret u =>
      obtain ⟨v, H', I3, rv, ev, q3⟩ := I2.after hq'
      subst ev
      exact ⟨rv, ⟨V.ref (s.heap.objs.size + 1), H', I3, rfl, q3⟩⟩
    | next => exact hq'.elim
    | brk => exact hq'.elim
    | cont => exact hq'.elim
theorem pe_makeG (M : Mk X.K C f) (F : FnG X.prog X.w X.K X.mg X.base k f fd ps sp) (hr : Room (k + 1) X.A) (hG : X.A.guards = some []) (hg : Gl X x) (hm : X.mg x = some (.ref C)) (hb : Binds X.K fd ps []) (tk : L2.Takes X W)
    (ha : PA X (e :: es) t) (hdb : (x == ("__debug__" : Str)) = false := by decide) (he : starEach (e :: es) X.env = (false, eval e X.env) :: starEach es X.env := by rfl) (hpl : (backTo pos (starEach es X.env)).any (·.1) = false := by rfl) :
    PE X (.Call (.Name x p) (e :: es) [] pos) (fun σ H Q => t σ H fun vs H1 => ∀ y dx, H1 y = none → H1 dx = none → dx ≠ y → sp (.ref y :: vs) (upd (upd H1 dx (.own y)) y (.ins C dx [])) (fun v H2 => v = .non ∧ Q (.ref y) H2) fun cls d H' => W cls d σ H') := by
  refine ⟨fun pins s σ H Q I h => ?_⟩
  refine wpAny_Call_Name_kw (ld_glob I hg hm ?_ hdb)
  refine PySem.W.callWith_K (h₀ := X.base) I.ok.mod.kin M.kp (thn (ha.run pos pins s σ H _ I h) fun us s1 ⟨vs, H1, I1, r, q⟩ => ⟨I1.kIn, ?_⟩) he hpl
  exact runMakeG M F hr hG hb tk I1 r q
def sMake (C : Addr) (spec : SemF) (qs : SemD) : SemE := fun env Q E => qs env (fun ds env1 => spec (.ow (.ins C []) [] :: ds.map .fz) (fun t outs => t = .fz .non ∧ ∃ u, outs = [u] ∧ Q u env1) (fun r _ => E r env1)) E
def labN (H1 : Hp) (ow1 : Ow) (m : Nat) (owc : Ow) : Ow := fun a => if (H1 a).isSome = true then ow1 a else match owc a with
  | .base => .base
  | .fr => .fr
  | _ => .tm m
theorem make_run {K : PySem.W.Frag} {n0 : Nat} {σ : L2.St} {H1 : Hp} {Qv : VK} {mm : Nat} {ow1 : Ow} {env1 : Env} {Q : T → Env → Prop} {E : XQ} {vs : List V} {ds : List D} (hn : vs.length + 1 = n0) (s1 : StOk K H1 ow1 σ env1) (rs : Rps K (Bs H1 ow1) vs ds)
    (hs : spec (.ow (.ins C []) [] :: ds.map .fz) (fun t outs => t = .fz .non ∧ ∃ u, outs = [u] ∧ Q u env1) (fun r _ => E r env1))
    (kk : ∀ v t H' ow', Stp [] mm H1 ow1 H' ow' → StOk K H' ow' σ env1 → Tq K H' ow' (.tm mm) v t → Q t env1 → Qv v H') (xx : Xk K W [] σ H1 mm ow1 env1 E)
    {y dx : Addr} (hy : H1 y = none) (hdx : H1 dx = none) (hne : dx ≠ y) : spQ K n0 [0] spec (.ref y :: vs) (upd (upd H1 dx (.own y)) y (.ins C dx [])) (fun v H2 => v = .non ∧ Qv (.ref y) H2) (fun cls d H' => W cls d σ H') := by
  obtain ⟨H0, eH0⟩ : ∃ H0, H0 = upd (upd H1 dx (.own y)) y (.ins C dx []) := ⟨_, rfl⟩
  obtain ⟨owi, eowi⟩ : ∃ owi : Ow, owi = fun a => if a = y ∨ a = dx then .sl 0 else labIn [] [] (ow1 a) := ⟨_, rfl⟩
  rw [← eH0]
  have ly : owi y = .sl 0 := by rw [eowi]; exact if_pos (.inl rfl)
  have ld : owi dx = .sl 0 := by rw [eowi]; exact if_pos (.inr rfl)
  have lo : ∀ a, a ≠ y → a ≠ dx → owi a = labIn [] [] (ow1 a) := fun a h1 h2 => by rw [eowi]; exact if_neg (fun z => z.elim h1 h2)
  have Hy : H0 y = some (.ins C dx []) := by rw [eH0]; exact upd_same
  have Hd : H0 dx = some (.own y) := by rw [eH0, upd_ne hne]; exact upd_same
  have old : ∀ a o, H1 a = some o → a ≠ y ∧ a ≠ dx ∧ H0 a = some o := fun a o e => by
    have n1 : a ≠ y := fun z => by rw [z, hy] at e; cases e
    have n2 : a ≠ dx := fun z => by rw [z, hdx] at e; cases e
    exact ⟨n1, n2, by rw [eH0, upd_ne n1, upd_ne n2]; exact e⟩
  have lIn : ∀ l, labIn [] [] l = .base ∨ labIn [] [] l = .fr := fun l => by
    cases l with
    | base => exact .inl rfl
    | _ => exact .inr rfl
  have lB : ∀ {l}, labIn [] [] l = .base → l = .base := fun {l} h => by
    cases l with
    | base => rfl
    | _ => cases h
  have bsIn : Same (Bs H1 ow1) (Bs H0 owi) := bs_map (fun a o e2 e1 => by
    obtain ⟨n1, n2, e3⟩ := old a o e2
    exact ⟨e3, by rw [lo a n1 n2, e1]; rfl⟩) fun a vs e => (old a _ e).2.2
  have rs2 := rs.mono bsIn
  have fr : ∀ {H2 : Hp} {owc : Ow}, Fs H0 owi H2 owc → ∀ a o, H1 a = some o → H2 a = some o ∧ owc a = labIn [] [] (ow1 a) := fun {H2 owc} fs a o e => by
    obtain ⟨n1, n2, e3⟩ := old a o e
    obtain ⟨q1, q2⟩ := fs a o e3 (by rw [lo a n1 n2]; exact (lIn _).symm)
    exact ⟨q1, by rw [q2, lo a n1 n2]⟩
  have stp : ∀ {H2 : Hp} {owc : Ow}, Fs H0 owi H2 owc → Stp [] mm H1 ow1 H2 (labN H1 ow1 mm owc) := fun {H2 owc} fs => ⟨fun a o e _ => ⟨(fr fs a o e).1, by unfold labN; rw [e]; rfl⟩, fun a vs e => (fr fs a _ e).1⟩
  have bsB : ∀ {H2 : Hp} {owc : Ow}, Fs H0 owi H2 owc → Same (Bs H2 owc) (Bs H2 (labN H1 ow1 mm owc)) := fun {H2 owc} fs => bs_lab fun a e1 => by
    have : labN H1 ow1 mm owc a = .base := by
      unfold labN
      cases e3 : H1 a with
      | none => simp [e1]
      | some o1 =>
        have q := (fr fs a o1 e3).2
        rw [e1] at q
        simp only [Option.isSome_some, if_true]
        exact lB q.symm
    exact this
  refine ⟨by rw [List.length_cons]; exact hn, owi, .ow (.ins C []) [] :: ds.map .fz, _, _, by rw [List.length_cons, List.length_map, ← rs.len]; exact hn, fun i t et => ?_, hs, fun v t H2 owc outs fs r lo' ho z => ?_, fun r d H2 owc outs fs rz lo' ho z => ?_⟩
  · cases i with
    | zero =>
      simp at et
      subst et
      exact ⟨.ref y, rfl, _, .ow (dx := dx) ⟨Hy, Nat.zero_le _, rfl, Hd, hne⟩ (fun b fb => by
        rcases fb with rfl | rfl
        · exact ly
        · exact ld) .nil⟩
    | succ i =>
      rw [List.getElem?_cons_succ, List.getElem?_map] at et
      obtain ⟨d, ed, rfl⟩ := Option.map_eq_some_iff.mp et
      obtain ⟨v, ev, rv⟩ := rs2.get ed
      exact ⟨v, by rw [List.getElem?_cons_succ]; exact ev, Tq.fz_.mpr rv⟩
  · obtain ⟨rfl, u, rfl, z⟩ := z
    have ev : v = .non := by cases Tq.fz_.mp r; rfl
    refine ⟨ev, ?_⟩
    obtain ⟨v0, e0, S, r0⟩ := ho 0 0 u rfl rfl
    simp at e0
    subst e0
    refine kk (.ref y) u H2 _ (stp fs) (s1.stp0 (stp fs)) ⟨S, Tp.car (bsB fs) (fun a o _ e eo => ⟨e, ?_⟩) r0⟩ z
    unfold labN
    cases e3 : H1 a with
    | none => simp [eo]
    | some o1 =>
      have q := (fr fs a o1 e3).2
      rw [eo] at q
      rcases lIn (ow1 a) with w | w <;> rw [w] at q <;> cases q
  · refine xx r d H2 _ _ (stp fs) (s1.stp0 (stp fs)) Out.refl ?_ z
    cases d with
    | none => exact rz
    | some d =>
      obtain ⟨ws, e1, e2, e3⟩ := rz
      exact ⟨ws, bsB fs _ _ e1, e2, e3.mono (bsB fs)⟩
def CalleeK (P : Program) (w : World) (K : PySem.W.Frag) (mg : Str → Option Value) (base : Heap) (k : Nat) (x : Str) (C : Addr) (ps : List Str) (spec : SemF) : Prop := ∃ f fd, QFn P w K mg base k f fd ps [0] spec ∧ Mk K C f ∧ mg x = some (.ref C) ∧ Binds K fd ps []
theorem q_make (F : CalleeK X.prog X.w X.K X.mg X.base k x C ps spec) (tk : L2.Takes X W) (hr : Room (k + 1) X.A) (hG : X.A.guards = some []) (hg : Gl X x)
    (ha : QA X W M ks (e :: es) qs) (hk : (ks.all fun x => x.isNone) = true := by rfl) (hn : ks.length + 1 = ps.length := by rfl) (hdb : (x == ("__debug__" : Str)) = false := by decide) (he : starEach (e :: es) X.env = (false, eval e X.env) :: starEach es X.env := by rfl)
    (hpl : (backTo pos (starEach es X.env)).any (·.1) = false := by rfl) : QE X W M (.Call (.Name x p) (e :: es) [] pos) (sMake C spec qs) := by
  obtain ⟨f, fd, F, hM, hm, hb⟩ := F
  exact ⟨PE_imp (pe_makeG hM F hr hG hg hm hb tk ha.run hdb he hpl) fun σ H Qv ⟨n, ow, env, Q, E, st, hq, kk, xx⟩ => tA_data hk st hq xx fun vs ds H' ow' env' y s' o l1 r z => fun a dx h1 h2 h3 =>
    make_run (by omega) s' r z (fun v t H2 ow2 y2 s2 r2 z2 => kk v t H2 ow2 env' (y.trans y2 (fun _ h => h) nilsub (Nat.le_refl _) (Nat.le_refl _)) s2 o r2 z2) (xx.step y o (fun _ h => h) nilsub (Nat.le_refl _) (Nat.le_refl _)) h1 h2 h3⟩
end
def DefM (K : PySem.W.Frag) (C : Addr) (m qual : Str) (st : Stmt) (ps : List Str) : Prop := ∃ f fd, Fun K m qual st f fd ∧ Meth K C m f ∧ Binds K fd ps []
def DefK (K : PySem.W.Frag) (mg : Str → Option Value) (x : Str) (C : Addr) (qual : Str) (st : Stmt) (ps : List Str) : Prop := ∃ f fd, Fun K "__init__" qual st f fd ∧ Mk K C f ∧ mg x = some (.ref C) ∧ Binds K fd ps []
section
variable {P : Program} {w : World} {K : PySem.W.Frag} {mg : Str → Option Value} {base : Heap}
theorem calleeM_of {k : Nat} {C : Addr} {m qual : Str} {st : Stmt} {N ps : List Str} {io : List Nat} {spec : SemF} (Df : DefM K C m qual st ps) (S : FnScope N ps (defScope st)) (hio : (io.all fun i => decide (i < ps.length)) = true) (hpN : ps.length ≤ N.length)
    (hb : ∀ (f : Addr) (cdv : Value) (A : Around) (outer : List PySem.Env) (s : Shared) (H : Hp) (E : XK) (W : WX), Room k (A.deeper (envOfC qual (defScope st) s.heap.objs.size f cdv)) → A.guards = some [] → L2.Takes (cxOf (L2.CX P w) P w K mg base N qual (defScope st) f cdv A outer s H E) W →
      PassesOwn (model P w) (A.deeper (envOfC qual (defScope st) s.heap.objs.size f cdv)) (envOfC qual (defScope st) s.heap.objs.size f cdv) (cxOf (L2.CX P w) P w K mg base N qual (defScope st) f cdv A outer s H E).xe →
      ∃ q, QSs (cxOf (L2.CX P w) P w K mg base N qual (defScope st) f cdv A outer s H E) W io (defBody st) q ∧ ∀ args Q E, args.length = ps.length → spec args Q E → q (EndsF io Q E) (env0 N.length args)) : CalleeM P w K mg base (k + 1) C m ps io spec :=
  let ⟨f, fd, F, m, b⟩ := Df
  ⟨f, fd, qfn_of F S hio hpN (hb f), m, b⟩
theorem calleeK_of {k : Nat} {C : Addr} {x qual : Str} {st : Stmt} {N ps : List Str} {spec : SemF} (Df : DefK K mg x C qual st ps) (S : FnScope N ps (defScope st)) (hio : (([0] : List Nat).all fun i => decide (i < ps.length)) = true) (hpN : ps.length ≤ N.length)
    (hb : ∀ (f : Addr) (cdv : Value) (A : Around) (outer : List PySem.Env) (s : Shared) (H : Hp) (E : XK) (W : WX), Room k (A.deeper (envOfC qual (defScope st) s.heap.objs.size f cdv)) → A.guards = some [] → L2.Takes (cxOf (L2.CX P w) P w K mg base N qual (defScope st) f cdv A outer s H E) W →
      PassesOwn (model P w) (A.deeper (envOfC qual (defScope st) s.heap.objs.size f cdv)) (envOfC qual (defScope st) s.heap.objs.size f cdv) (cxOf (L2.CX P w) P w K mg base N qual (defScope st) f cdv A outer s H E).xe →
      ∃ q, QSs (cxOf (L2.CX P w) P w K mg base N qual (defScope st) f cdv A outer s H E) W [0] (defBody st) q ∧ ∀ args Q E, args.length = ps.length → spec args Q E → q (EndsF [0] Q E) (env0 N.length args)) : CalleeK P w K mg base (k + 1) x C ps spec :=
  let ⟨f, fd, F, m, g, b⟩ := Df
  ⟨f, fd, qfn_of F S hio hpN (hb f), m, g, b⟩
end
end QV

set_option Elab.async false
set_option linter.all false
set_option maxRecDepth 100000
set_option maxHeartbeats 2000000
namespace QV
open PySem PySem.Spec PyProof.Rows L2
def sPar (i j : Nat) (qs : SemD) : SemS := fun D env => qs env (fun ds env1 => match ds with
  | [d1, d2] => D.nx ((env1.set i (some (.fz d1))).set j (some (.fz d2)))
  | _ => False) D.ex
section
variable {X : Cx} {W : WX} {M IO : List Nat} {a b : Expr} {qs : SemD} {x y : Str} {px py pt pos : Pos} {ks : List (Option Nat)}
theorem s_par (i j : Nat) {kt k2 pt2} (ha : QA X W M ks [a, b] qs) (hc : X.calm = true) (hN : X.N.Nodup) (hi : X.N[i]? = some x := by rfl) (hj : X.N[j]? = some y := by rfl) (hij : i ≠ j := by decide)
    (hx : X.env.scope.names.lookup x = some .local := by rfl) (hy : X.env.scope.names.lookup y = some .local := by rfl) (hio : i ∉ IO := by decide) (hjo : j ∉ IO := by decide) (hk : (ks.all fun x => x.isNone) = true := by rfl)
    (hw : swappedStores [.Tuple [.Name x px, .Name y py] kt pt] (.Tuple [a, b] k2 pt2) X.env = pure (some [x, y]) := by rfl)
    (hs : swapsWithSole [.Tuple [.Name x px, .Name y py] kt pt] (.Tuple [a, b] k2 pt2) pos.line X.env = pure false := by rfl) :
    QS X W IO (.Assign [.Tuple [.Name x px, .Name y py] kt pt] (.Tuple [a, b] k2 pt2) pos) (sPar i j qs) :=
  ⟨PS_imp (ps_par (i := i) (j := j) hc hN hi hj hij hx hy ha.run hw hs) fun D σ H ⟨ow, env, De, s, hq, k⟩ => tA_data (m := 0) hk s hq k.ex.xk fun vs ds H' ow' env' y1 s' _ l1 r z => by
    match ds, r, z with
    | [d1, d2], .cons (v := v) r1 (.cons (v := w) r2 .nil), z =>
      refine ⟨v, w, rfl, ?_⟩
      obtain ⟨y2, s2⟩ := into_slot (i := i) s' (Tq.fz_.mpr r1 : Tq X.K H' ow' (.tm 0) v (.fz d1))
      obtain ⟨y3, s3⟩ := into_slot (i := j) s2 (Tq.fz_.mpr (r2.mono y2.bs) : Tq X.K H' _ (.tm 0) w (.fz d2))
      exact k.nx _ _ _ _ ((y1.fs.trans y2.fs).trans y3.fs) ((ios_set hio).trans (ios_set hjo)) s3 z⟩
end
end QV

set_option Elab.async false
set_option linter.all false
set_option maxRecDepth 100000
set_option maxHeartbeats 2000000
namespace QV
open PySem PySem.Spec PyProof.Rows L2
mutual
def D.px : D → PyData
  | .non => .none
  | .bl b => .bool b
  | .int i => .int i
  | .str x => .str x
  | .nd .tup ds => .tuple (Dpxs ds)
  | .nd .lst ds => .list (Dpxs ds)
  | .nd (.dK []) [] => .dict []
  | _ => .none
def Dpxs : List D → List PyData
  | [] => []
  | d :: ds => D.px d :: Dpxs ds
end
mutual
def D.pt : Nat → D → Bool
  | _, .non => true
  | _, .bl _ => true
  | _, .int _ => true
  | _, .str x => true
  | _ + 1, .nd (.dK []) [] => true
  | n + 1, .nd .tup ds => Dpts n ds
  | n + 1, .nd .lst ds => Dpts n ds
  | _, _ => false
def Dpts : Nat → List D → Bool
  | _, [] => true
  | n, d :: ds => D.pt n d && Dpts n ds
end
mutual
theorem px_depth : ∀ {n : Nat} (d : D), d.pt n = true → d.px.depth ≤ n
  | n, .non, _ => by simp [D.px, PyData.depth]
  | n, .bl b, _ => by simp [D.px, PyData.depth]
  | n, .int i, _ => by simp [D.px, PyData.depth]
  | n, .str x, _ => by simp [D.px, PyData.depth]
  | 0, .nd .tup ds, h => by simp [D.pt] at h
  | n + 1, .nd .tup ds, h => by
    have := pxs_depth (n := n) ds (by simpa [D.pt] using h)
    simp only [D.px, PyData.depth]
    omega
  | 0, .nd (.dK []) [], h => by simp [D.pt] at h
  | n + 1, .nd (.dK []) [], _ => by simp [D.px, PyData.depth, PyData.depthKv]
  | n, .nd (.dK (_ :: _)) _, h => by cases n <;> simp [D.pt] at h
  | n, .nd (.dK []) (_ :: _), h => by cases n <;> simp [D.pt] at h
  | 0, .nd .lst ds, h => by simp [D.pt] at h
  | n + 1, .nd .lst ds, h => by
    have := pxs_depth (n := n) ds (by simpa [D.pt] using h)
    simp only [D.px, PyData.depth]
    omega
  | n, .nd (.dT _) _, h => by cases n <;> simp [D.pt] at h
  | n, .nd (.lkT _ _) _, h => by cases n <;> simp [D.pt] at h
  | n, .nd (.lsA _) _, h => by cases n <;> simp [D.pt] at h
  | n, .nd (.ins _ _) _, h => by cases n <;> simp [D.pt] at h
  | n, .scr _, h => by cases n <;> simp [D.pt] at h
  | n, .exc _ _ _ _ _, h => by cases n <;> simp [D.pt] at h
theorem pxs_depth : ∀ {n : Nat} (ds : List D), Dpts n ds = true → PyData.depthAll (Dpxs ds) ≤ n
  | n, [], _ => by simp [Dpxs, PyData.depthAll]
  | n, d :: ds, h => by
    have h' : D.pt n d = true ∧ Dpts n ds = true := by simpa [Dpts] using h
    have := px_depth d h'.1
    have := pxs_depth ds h'.2
    simp only [Dpxs, PyData.depthAll]
    omega
end
mutual
theorem shrx_ok : ∀ d : D, shrt d = true → d.px.leavesShort 41 = true ∧ d.px.showable = true ∧ d.px.weight ≤ szD d
  | .non, _ => ⟨rfl, rfl, by simp [D.px, PyData.weight]⟩
  | .bl _, _ => ⟨rfl, rfl, by simp [D.px, PyData.weight]⟩
  | .int i, h => by
    have h' : i.natAbs < 10000000000000000000000000000000000000000 := by simpa [shrt] using h
    refine ⟨?_, ?_, ?_⟩
    · simp only [D.px, PyData.leavesShort, decide_eq_true_eq]
      have e := int_text_length_le10 (k := 40) (by decide) (show i.natAbs < 10 ^ 40 by omega)
      have e2 : (PyData.int i).shown.length = (toString i).length := by
        rw [PyData.shown_int]
        exact PySem.ofString_length _
      rw [e2]
      exact e
    · simp only [D.px, PyData.showable, decide_eq_true_eq]
      have := log2_40 h'
      omega
    · simp only [D.px, PyData.weight, szD]
      have := log2_40 h'
      split <;> omega
  | .str x, h => by
    refine ⟨by simpa [D.px, PyData.leavesShort, shrt] using h, rfl, by simp [D.px, PyData.weight, szD]⟩
  | .scr _, _ => ⟨rfl, rfl, by simp [D.px, PyData.weight]⟩
  | .exc _ _ _ _ _, _ => ⟨rfl, rfl, by simp [D.px, PyData.weight]⟩
  | .nd .lst ds, h => by
    obtain ⟨a, b, c⟩ := shrxs_ok ds (by simpa [shrt] using h)
    exact ⟨by simpa [D.px, PyData.leavesShort] using a, by simpa [D.px, PyData.showable] using b, by simpa [D.px, PyData.weight, szD] using c⟩
  | .nd .tup ds, h => by
    obtain ⟨a, b, c⟩ := shrxs_ok ds (by simpa [shrt] using h)
    exact ⟨by simpa [D.px, PyData.leavesShort] using a, by simpa [D.px, PyData.showable] using b, by simpa [D.px, PyData.weight, szD] using c⟩
  | .nd (.dK []) [], _ => ⟨rfl, rfl, by simp [D.px, PyData.weight, PyData.weightKv]⟩
  | .nd (.dK []) (_ :: _), _ => ⟨rfl, rfl, by simp [D.px, PyData.weight]⟩
  | .nd (.dK (_ :: _)) ds, _ => ⟨rfl, rfl, by simp [D.px, PyData.weight]⟩
  | .nd (.dT _) ds, _ => ⟨rfl, rfl, by simp [D.px, PyData.weight]⟩
  | .nd (.lkT _ _) ds, _ => ⟨rfl, rfl, by simp [D.px, PyData.weight]⟩
  | .nd (.lsA _) ds, _ => ⟨rfl, rfl, by simp [D.px, PyData.weight]⟩
  | .nd (.ins _ _) ds, _ => ⟨rfl, rfl, by simp [D.px, PyData.weight]⟩
theorem shrxs_ok : ∀ ds : List D, shrts ds = true → PyData.leavesShortAll 41 (Dpxs ds) = true ∧ PyData.showableAll (Dpxs ds) = true ∧ PyData.weightAll (Dpxs ds) ≤ szDs ds
  | [], _ => ⟨rfl, rfl, by simp [Dpxs, PyData.weightAll]⟩
  | d :: ds, h => by
    have h' : shrt d = true ∧ shrts ds = true := by simpa [shrts] using h
    obtain ⟨a, b, c⟩ := shrx_ok d h'.1
    obtain ⟨a', b', c'⟩ := shrxs_ok ds h'.2
    exact ⟨by simp [Dpxs, PyData.leavesShortAll, a, a'], by simp [Dpxs, PyData.showableAll, b, b'], by simp only [Dpxs, PyData.weightAll, szDs]; omega⟩
end
def shwX (d : D) : Prop := d.px.showable = true ∧ d.px.shown.length ≤ sizeLine
theorem shx_of {d : D} (h : shrt d = true) (hz : szD d ≤ 262144) : shwX d := by
  obtain ⟨a, b, c⟩ := shrx_ok d h
  refine ⟨b, Nat.le_trans (PyData.shown_le 41 (by decide) _ a) ?_⟩
  have h1 : (41 + 2) * d.px.weight + 41 ≤ 43 * 262144 + 41 := by omega
  exact Nat.le_trans h1 (by rw [sizeLine_eq]; decide)
theorem pts_all {n : Nat} : ∀ {ds : List D}, (∀ d, d ∈ ds → d.pt n = true) → Dpts n ds = true
  | [], _ => by simp [Dpts]
  | d :: ds, h => by simp only [Dpts, Bool.and_eq_true]; exact ⟨h d (by simp), pts_all fun e he => h e (by simp [he])⟩
theorem pt_lst {n : Nat} {ds : List D} (h : ∀ d, d ∈ ds → d.pt n = true) : (D.nd .lst ds).pt (n + 1) = true := by rw [D.pt]; exact pts_all h
theorem pt_tup {n : Nat} {ds : List D} (h : ∀ d, d ∈ ds → d.pt n = true) : (D.nd .tup ds).pt (n + 1) = true := by rw [D.pt]; exact pts_all h
def Sys (h : Heap) : Prop := ∃ o, h.get? sysModules = some o
section
variable {X : Cx} {pins : List (Addr × Obj)} {σ : L2.St} {H : Hp} {s : Shared}
theorem H_sys (hS : Sys X.base) (I : Inv X pins σ H s) : H sysModules = none := let ⟨o, e⟩ := hS; (I.bs _ o e).2
mutual
theorem px_reads (hS : Sys X.base) (I : Inv X pins σ H s) : ∀ {n : Nat} (d : D) (v : V) (u : Value), Rp X.K H v d → d.pt n = true → RelV v u → ∃ as, Reads s.heap u d.px as ∧ sysModules ∉ as
  | n, .non, _, _, h, _, r => by cases h; cases r; exact ⟨_, Reads.none, by simp⟩
  | n, .bl b, _, _, h, _, r => by cases h; cases r; exact ⟨_, Reads.bool b, by simp⟩
  | n, .int i, _, _, h, _, r => by cases h; obtain ⟨t, rfl⟩ := r; exact ⟨_, Reads.int i t, by simp⟩
  | n, .str x, _, _, h, _, r => by cases h; obtain ⟨t, rfl⟩ := r; exact ⟨_, Reads.str x t, by simp⟩
  | 0, .nd .tup ds, _, _, _, h, _ => by simp [D.pt] at h
  | n + 1, .nd .tup ds, _, _, h, k, r => by
    cases h with
    | tup c z rr =>
      cases r
      obtain ⟨its, rv, ⟨o, ho, hc, m, hd⟩, _⟩ := I.tuple (sqT_of c)
      obtain ⟨as, hr, hn⟩ := pxs_reads hS I (n := n) ds _ its rr (by simpa [D.pt] using k) rv
      exact ⟨_, Reads.tuple ho hc hd hr, hn⟩
    | cell hn _ _ => exact absurd rfl hn
  | n, .nd (.dK []) [], _, _, h, k, r => by
    cases h with
    | cell _ c rr =>
      cases rr
      cases r
      obtain ⟨_, hs, vs, kv, o, es, ep, h1, h2, h3, _, h5, _⟩ := dk_of I.hok c.at_
      have e0 : vs = [] := by
        have := kv.length
        simp at this
        exact List.eq_nil_of_length_eq_zero this.symm
      subst e0
      have e1 : es.toList = [] := by
        generalize es.toList = l at h5
        cases h5
        rfl
      refine ⟨_, Reads.dict (kvs := []) h1 h2.1 h3 (by rw [e1]; exact .nil) (by rw [e1]; exact .nil), ?_⟩
      simp
      intro z
      rw [← z] at hs
      simp at hs
  | n, .nd (.dK (_ :: _)) _, _, _, _, h, _ => by cases n <;> simp [D.pt] at h
  | n, .nd (.dK []) (_ :: _), _, _, _, h, _ => by cases n <;> simp [D.pt] at h
  | 0, .nd .lst ds, _, _, _, h, _ => by simp [D.pt] at h
  | n + 1, .nd .lst ds, _, _, h, k, r => by
    cases h with
    | cell _ c rr =>
      cases r
      obtain ⟨its, rv, ⟨o, m, ho, hc, _, hd⟩, _⟩ := I.list (.inl (.inl c.at_))
      obtain ⟨as, hr, hn⟩ := pxs_reads hS I (n := n) ds _ its rr (by simpa [D.pt] using k) rv
      refine ⟨_, Reads.list ho hc hd hr, ?_⟩
      have hs := c.at_
      simp only [List.mem_cons, not_or]
      refine ⟨fun z => ?_, hn⟩
      rw [← z, H_sys hS I] at hs
      cases hs
  | n, .nd (.dT _) _, _, _, _, h, _ => by cases n <;> simp [D.pt] at h
  | n, .nd (.lkT _ _) _, _, _, _, h, _ => by cases n <;> simp [D.pt] at h
  | n, .nd (.lsA _) _, _, _, _, h, _ => by cases n <;> simp [D.pt] at h
  | n, .nd (.ins _ _) _, _, _, _, h, _ => by cases n <;> simp [D.pt] at h
  | n, .scr _, _, _, _, h, _ => by cases n <;> simp [D.pt] at h
  | n, .exc _ _ _ _ _, _, _, _, h, _ => by cases n <;> simp [D.pt] at h
theorem pxs_reads (hS : Sys X.base) (I : Inv X pins σ H s) : ∀ {n : Nat} (ds : List D) (vs : List V) (us : List Value), Rps X.K H vs ds → Dpts n ds = true → Vals vs us → ∃ as, ReadsAll s.heap us (Dpxs ds) as ∧ sysModules ∉ as
  | n, [], _, _, h, _, r => by cases h; cases r; exact ⟨_, ReadsAll.nil, by simp⟩
  | n, d :: ds, _, _, h, k, r => by
    cases h with
    | cons h1 h2 =>
      cases r with
      | cons r1 r2 =>
        have k' : D.pt n d = true ∧ Dpts n ds = true := by simpa [Dpts] using k
        obtain ⟨as, q1, n1⟩ := px_reads hS I d _ _ h1 k'.1 r1
        obtain ⟨bs, q2, n2⟩ := pxs_reads hS I ds _ _ h2 k'.2 r2
        exact ⟨_, ReadsAll.cons q1 q2, by simp [n1, n2]⟩
end
end
def rReprX (K : PySem.W.Frag) : List V → Hp → VK → Prop := fun xs H Q => ∃ x d, xs = [x] ∧ Rp K H x d ∧ d.pt 8 = true ∧ d.px.showable = true ∧ d.px.shown.length ≤ sizeLine ∧ Q (.str d.px.shown) H
theorem c_reprX {X : Cx} (hS : Sys X.base) (hG : X.A.guards = some []) (hu : X.A.units + 66 < cLine) : CallR X (.builtin "repr") (rReprX X.K) := by
  intro pins s σ H xs us Q I r ⟨x, d, ex, hd, hp, hw, hz, q⟩
  subst ex
  obtain ⟨u, rfl, ru⟩ := vals1 r
  obtain ⟨as, rd, hn⟩ := px_reads hS I d x u hd hp ru
  have hdep := px_depth d hp
  cases hd with
  | non => cases ru; rw [D.px, PyData.shown_none] at q; exact PySem.P.repr_of_none ⟨.str _, H, I.tok _, ⟨_, rfl⟩, q⟩
  | bl b => cases ru; rw [D.px, PyData.shown_bool] at q; exact PySem.P.repr_of_bool ⟨.str _, H, I.tok _, ⟨_, by cases b <;> rfl⟩, q⟩
  | int i => obtain ⟨t, rfl⟩ := ru; rw [D.px, PyData.shown_int] at q; exact PySem.P.repr_of_int (by simpa [D.px, PyData.showable] using hw) ⟨.str _, H, I.tok _, ⟨_, rfl⟩, q⟩
  | str z => obtain ⟨t, rfl⟩ := ru; rw [D.px, PyData.shown_str] at q hz; exact PySem.P.repr_of_str ⟨.str _, H, I.tok _, ⟨_, rfl⟩, q⟩ hz
  | tup h1 h2 h3 =>
    cases ru
    exact repr_of_reads' rd hw (fun _ => hn) hG (by omega) (fun _ _ e => e) (fun h' u tk hk => ⟨.str _, H, I.kept hk, ⟨_, rfl⟩, q⟩) hz
  | cell h1 h2 h3 =>
    cases ru
    exact repr_of_reads' rd hw (fun _ => hn) hG (by omega) (fun _ _ e => e) (fun h' u tk hk => ⟨.str _, H, I.kept hk, ⟨_, rfl⟩, q⟩) hz
  | scr _ => simp [D.pt] at hp
  | exc0 _ _ => simp [D.pt] at hp
  | exc1 _ _ _ => simp [D.pt] at hp
def reprX (t : T) (Q : T → Prop) : Prop := t.d.pt 8 = true ∧ shwX t.d ∧ Q (.fz (.str t.d.px.shown))
theorem g_reprX {K : PySem.W.Frag} : Op1 K (fun x H Q => rReprX K [x] H Q) reprX := by
  intro H ow n x t Q Qv rx ⟨h1, h2, q⟩ k
  exact ⟨x, _, rfl, rx.rd, h1, h2.1, h2.2, k _ _ H ow Stp.refl (Tq.fz_.mpr (.str _)) q⟩
def sD0 : SemE := fun env Q _ => Q (.ow (.dK []) []) env
theorem q_dict0 {X : Cx} {W : WX} {pos : Pos} : QE X W [] (.Dict [] [] pos) sD0 :=
  ⟨PE_imp pe_dnewK fun σ H Qv ⟨n, ow, env, Q, E, s, hq, k, x⟩ p hp => k _ _ _ (Ow.put ow p (.tm n)) env (Stp.new hp) (s.stp0 (n := 0) (Stp.new hp)) Out.refl
    ⟨_, .ow (k := .dK []) (dx := p) (vs := []) ⟨upd_same, by decide, show ([] : List Key).length = ([] : List V).length from rfl⟩ (fun b fb => by have e : b = p := fb; rw [e]; exact put_same) .nil⟩ hq⟩
section
variable {P : Program} {w : World} {K : PySem.W.Frag} {mg mb : Str → Option Value} {k : Nat} {fa a : Addr} {p1 : Str} {sp : Sp} {st : Shared}
theorem end_coreS {us : List Value} (sysN : ∃ mm, st.heap.Ns sysModules mm) (inK : K.In st.heap) (gN : st.heap.Ns mainGlobals mg) (bN : st.heap.Ns builtinsNs mb) (boot : ∀ y : Str, y ≠ "__name__" → mb y = bootBuiltins y) (lim : st.heap.NoLimit) (gens : st.gens = #[])
    (cell : st.heap.get? a = some { cls := .type "list", data := .seq us.toArray }) (room : Room k callerA) (F : ∀ base : Heap, Sys base → ∃ fd, FnG P w K mg base k fa fd [p1] sp ∧ Binds K fd [p1] [])
    (H : Hp) (only : Only H) (say : sp [.ref a] H (fun v _ => v = .bl true) fun _ _ _ => False) (ok0 : HOk P w H st.heap) (just : ∀ b, H b ≠ none → b = a) (out : H a ≠ none → K.lookup a = none) :
    codeAny (model P w) callerA (.call (.ref fa) ⟨[.ref a], []⟩) (fun r s' => r = .ok (.ret (.bool true)) ∧ OldK st.heap s'.heap ∧ s'.os = st.os ∧ AllBare s'.gens) st := by
  have free : ∀ {b : Addr} {o : Obj} {es : Array DictEntry} {n : Nat}, st.heap.get? b = some o → o.data = .dict es n → H b = none := by
    intro b o es n e1 e2
    rcases Classical.em (H b = none) with z | z
    · exact z
    · have eb := just b z
      subst eb
      have := cell.symm.trans e1
      cases this
      exact Data.noConfusion e2
  have keepNs : ∀ {b : Addr} {m : Str → Option Value}, st.heap.Ns b m → (hidT st.heap H).Ns b m := by
    rintro b m ⟨o, es, n, g1, g2, rest⟩
    exact ⟨o, es, n, hidT_get g1 (free g1 g2), g2, rest⟩
  have inB : K.In (hidT st.heap H) := by
    intro b o e
    refine hidT_get (inK b o e) ?_
    rcases Classical.em (H b = none) with z | z
    · exact z
    · have eb := just b z
      subst eb
      have := (out z).symm.trans e
      cases this
  obtain ⟨mc, lim1, lim2⟩ := lim
  have md : Mod K mg (hidT st.heap H) := ⟨inB, keepNs gN, ⟨mb, keepNs bN, boot⟩, ⟨mc, keepNs lim1, lim2⟩⟩
  have none0 : ∀ {b : Addr}, b ∉ ([] : List Addr) := fun z => nomatch z
  have env0 : Env0 P w K mg (hidT st.heap H) callerA [] st H :=
    ⟨rfl, md, fun _ _ z => of_hidT z, Nat.le_of_eq (hidT_size _ _), trivial, fun _ z => absurd z none0, ok0, .of_eq gens⟩
  obtain ⟨fd, fn, bnd⟩ := F (hidT st.heap H) (let ⟨_, hm⟩ := sysN; let ⟨o, _, _, e, _⟩ := keepNs hm; ⟨o, e⟩)
  have run := fn.run callerA [] st H ⟨[.ref a], []⟩ [.ref a] [.ref a] _ _ room rfl env0 (bnd st [.ref a] inK rfl) (.cons rfl .nil) say
  refine codeAny_mono run fun r s' told => ?_
  rcases r with ex | fl
  · obtain ⟨_, _, _, _, _, _, _, _, _, _, _, _, z⟩ := told
    exact z.elim
  · cases fl with
    | ret u =>
      obtain ⟨v, H2, os, bare, un, ok2, ru, ev⟩ := told
      cases (show v = .bl true from ev)
      cases (show u = Value.bool true from ru)
      refine ⟨rfl, OldK.of_keep ?_, os, bare⟩
      intro b o e
      rcases only b with z | ⟨oo, ys, z⟩
      · exact un.keep b o e z none0 (by simp)
      · have g1 := (ok0 b _ z).1
        have g2 := (ok2 b _ (un.frzs b oo _ z)).1
        rw [e] at g1
        cases g1
        exact g2
    | next => exact told.elim
    | brk => exact told.elim
    | cont => exact told.elim
theorem end_callS {us : List Value} {ns : List Int} (sysN : ∃ mm, st.heap.Ns sysModules mm) (inK : K.In st.heap) (gN : st.heap.Ns mainGlobals mg) (bN : st.heap.Ns builtinsNs mb) (boot : ∀ y : Str, y ≠ "__name__" → mb y = bootBuiltins y) (lim : st.heap.NoLimit) (gens : st.gens = #[])
    (cell : st.heap.get? a = some { cls := .type "list", data := .seq us.toArray }) (nums : IntsAre us ns) (size : ns.length ≤ sizeLine) (room : Room k callerA) (F : ∀ base : Heap, Sys base → ∃ fd, FnG P w K mg base k fa fd [p1] sp ∧ Binds K fd [p1] [])
    (say : ∀ H : Hp, SqL K H a (ns.map V.int) → sp [.ref a] H (fun v _ => v = .bl true) fun _ _ _ => False) :
    codeAny (model P w) callerA (.call (.ref fa) ⟨[.ref a], []⟩) (fun r s' => r = .ok (.ret (.bool true)) ∧ OldK st.heap s'.heap ∧ s'.os = st.os ∧ AllBare s'.gens) st := by
  have vals := vals_ints nums
  have same := nums.length
  have go := fun H => end_coreS sysN (p1 := p1) (sp := sp) inK gN bN boot lim gens cell room F H
  rcases lk : K.lookup a with _ | o
  · let H0 : Hp := fun b => if b = a then some (.frz { cls := .type "list", data := .seq us.toArray } (.lst (ns.map V.int))) else none
    have at0 : H0 a = some (.frz { cls := .type "list", data := .seq us.toArray } (.lst (ns.map V.int))) := if_pos rfl
    have off : ∀ {b : Addr}, b ≠ a → H0 b = none := fun z => if_neg z
    refine go H0 (fun b => ?_) (say H0 (.inl (.inr ⟨_, at0⟩))) (fun b u z => ?_) (fun b z => ?_) fun _ => lk
    · rcases Classical.em (b = a) with z | z
      · subst z; exact .inr ⟨_, _, at0⟩
      · exact .inl (off z)
    · rcases Classical.em (b = a) with eb | eb
      · subst eb
        rw [at0] at z
        cases z
        exact ⟨cell, by rw [List.length_map]; exact size, us, _, vals, cell⟩
      · rw [off eb] at z
        cases z
    · exact Classical.byContradiction fun eb => z (off eb)
  · have e := inK a o lk
    rw [cell] at e
    cases e
    exact go (fun _ => none) (fun _ => .inl rfl) (say _ (.inr ⟨_, us.toArray, _, lk, rfl, rfl, rfl, by rw [List.size_toArray, same]; exact size, by simpa using vals⟩)) (fun _ u z => nomatch (show (none : Option HO) = some u from z)) (fun _ z => (z rfl).elim) fun z => (z rfl).elim
end
theorem walk_ofS {l : PySem.W.OpenLaw} {n k : Nat} {q : Program} {loose : List Str} {XP : (Str → Option Value) → Heap → Prop} {YP : World → Heap → Prop} {d : DefRec} {K : Params → PySem.W.Frag} {x : Str}
    (most : l.most = some n) (small : n ≤ sizeLine) (plain : d.params.defaults = []) (room : Room k callerA) (noimp : importsNone q = true) (inY : ∀ (w : World) (h : Heap), YP w h → (K w.params).In h)
    (F : ∀ (w : World) (mg : Str → Option Value) (h : Heap), (K w.params).In h → h.Ns mainGlobals mg → ∀ base : Heap, Sys base → Callee l.prog w (K w.params) mg base k d.name [x] [] (lawS n)) :
    PySem.W.WalkO q loose XP YP l.row.toRowW d [] (fun f vs => PySem.call f vs) := by
  refine Att.attach_call most plain fun w s0 st mg mb fa o pm cd doc a us ns G Y _ _ _ main cell nums many gens => ?_
  have inK := inY w _ Y
  refine end_callS (G.T.seer noimp |>.mods |> fun ⟨mm, a, _⟩ => ⟨mm, a⟩) inK G.T.g G.T.b G.T.builtins G.T.nolimit gens cell nums (Nat.le_trans many small) room (p1 := x) (sp := spQ (K w.params) 1 [] (lawS n)) (fun base SB => ?_) fun H h => say_law many h
  obtain ⟨f, fd, fn, e, _, bnd⟩ := F w mg _ inK G.T.g base SB
  have ef := main.symm.trans e
  cases ef
  exact ⟨fd, fn, bnd⟩
end QV

set_option Elab.async false
set_option linter.all false
set_option maxRecDepth 100000
set_option maxHeartbeats 2000000
namespace QV
open PySem PySem.Spec PyProof.Rows L2
section
variable {X : Cx} {W : WX} {M : List Nat} {a : Expr} {pa : SemP} {ra : Option Nat} {x : Str} {p pos : Pos}
theorem q_globS {s : Str} (hg : Gl X x) (hm : ∃ t, X.mg x = some (.str s t)) (hd : (x == ("__debug__" : Str)) = false := by decide) : QE X W [] (.Name x pos) (sC (.str s)) :=
  let ⟨t, h⟩ := hm
  q_const (pe_glob (v := .str s) hg h ⟨t, rfl⟩ hd) fun _ => .str s
end
end QV

set_option Elab.async false
set_option linter.all false
set_option maxRecDepth 100000
set_option maxHeartbeats 2000000
namespace QV
open PySem PySem.Spec PyProof.Rows L2
section
variable {K : PySem.W.Frag} {H : Hp} {ow : Ow}
end
section
variable {X : Cx} {W : WX} {Ma Mb Mc : List Nat} {a b c tg : Expr} {qa qb qc : SemE} {p pos : Pos}
end
end QV

set_option Elab.async false
set_option linter.all false
set_option maxRecDepth 100000
set_option maxHeartbeats 2000000
namespace QV
open PySem PySem.Spec PyProof.Rows L2
section
variable {X : Cx} {W : WX} {M Ma Mb IO : List Nat} {e o ix : Expr} {q qi : SemE} {pa : SemP} {ra : Option Nat} {C : Addr} {x : Str} {pos tpos : Pos}
end
section
variable {κ : Type} [DecidableEq κ] {α : Type}
variable {K : PySem.W.Frag} {B : Hp}
end
section
variable {X : Cx} {W : WX} {M Ma Mb IO : List Nat} {e o ix : Expr} {q qi : SemE} {pa : SemP} {pos tpos : Pos}
end
end QV

set_option Elab.async false
set_option linter.all false
set_option maxRecDepth 100000
set_option maxHeartbeats 4000000
namespace QV
open PySem PySem.Spec PyProof.Rows L2
section
variable {X : Cx} {W : WX} {M : List Nat} {e : Expr} {pa : SemP} {root : Option Nat} {p p2 pos pos2 : Pos}
end
end QV

set_option Elab.async false
set_option linter.all false
set_option maxRecDepth 100000
set_option maxHeartbeats 2000000
namespace QV
open PySem PySem.Spec PyProof.Rows L2
section
variable {X : Cx} {W : WX} {M Ma Mb IO : List Nat} {k : Nat} {f C : Addr} {fd : FuncData} {ps : List Str} {io : List Nat} {sp : Sp} {spec : SemF} {ks : List (Option Nat)} {e : Expr} {es : List Expr} {q : SemE} {qs : SemD} {m x : Str} {px p pos apos : Pos}
end
section
variable {X : Cx} {W : WX} {M IO : List Nat} {C : Addr} {e : Expr} {q : SemE} {x m : Str} {px tpos pos : Pos}
end
end QV

set_option Elab.async false
set_option linter.all false
set_option maxRecDepth 100000
set_option maxHeartbeats 2000000
namespace L2
open PySem PySem.Spec PyProof.Rows
section
variable {X : Cx}
end
end L2
namespace QV
open PySem PySem.Spec PyProof.Rows L2
section
variable {κ : Type} [DecidableEq κ] {α : Type}
variable {K : PySem.W.Frag} {B : Hp}
end
section
variable {X : Cx} {W : WX} {Ma Mb : List Nat} {e o : Expr} {pa : SemP} {q : SemE}
end
end QV

set_option Elab.async false
set_option linter.all false
set_option maxRecDepth 100000
set_option maxHeartbeats 2000000
namespace QV
open PySem PySem.Spec PyProof.Rows L2
mutual
def T.sub : T → List Nat → Option T
  | t, [] => some t
  | .nd _ ts, j :: p => Tsub ts j p
  | _, _ :: _ => none
def Tsub : List T → Nat → List Nat → Option T
  | [], _, _ => none
  | t :: _, 0, p => T.sub t p
  | _ :: ts, j + 1, p => Tsub ts j p
end
section
variable {X : Cx} {W : WX} {M : List Nat} {e : Expr} {q : SemE}
end
def keyT (k : List Key) : D := .nd .tup (k.map keyOf)
section
variable {X : Cx} {W : WX} {M : List Nat} {e : Expr} {pa : SemP} {root : Option Nat} {p pos : Pos}
end
end QV

set_option Elab.async false
set_option linter.all false
set_option maxRecDepth 100000
set_option maxHeartbeats 2000000
namespace QV.SM
open PySem PyProof.Rows QV
section
variable {prog : Program} {w : World} {A : Around} {E : Value → Shared → Prop} {s : Shared}
end
end QV.SM
namespace QV
open PySem PySem.Spec PyProof.Rows L2
open Classical in
section
variable {X : Cx} {W : WX} {M : List Nat} {e : Expr} {root : Option Nat} {pa : SemP} {pos p : Pos}
end
end QV

set_option Elab.async false
set_option linter.all false
set_option maxRecDepth 100000
set_option maxHeartbeats 2000000
namespace QV
open PySem PySem.Spec PyProof.Rows L2
section
variable {X : Cx} {W : WX} {M : List Nat} {e : Expr} {pa : SemP} {root : Option Nat} {p pos cp : Pos} {y : Str} {C : Addr}
end
end QV

set_option Elab.async false
set_option linter.all false
set_option maxRecDepth 100000
set_option maxHeartbeats 2000000
namespace QV
open PySem PySem.Spec PyProof.Rows L2
section
variable {P : Program} {w : World} {K : PySem.W.Frag} {mg : Str → Option Value} {base : Heap}
end
end QV

set_option Elab.async false
set_option linter.all false
set_option maxRecDepth 100000
set_option maxHeartbeats 2000000
namespace QV
open PySem PySem.Spec PyProof.Rows L2
inductive HdsMix (X : Cx) : List ExceptHandler → List (Value × Option Nat × (Addr → Value → Option Addr → TS)) → Prop
  | nil : HdsMix X [] []
  | only {x : Str} {c : Value} {ts : Addr → Value → Option Addr → TS} {b₀ : Stmt} {suite : List Stmt} {np pos' : Pos} {hds : List ExceptHandler} {l : List (Value × Option Nat × (Addr → Value → Option Addr → TS))} (hc : Names X x c)
      (hsu : ∀ (a : Addr) (oe : Obj) (cls : Value) (d : Option Addr) (pn : List (Addr × Obj)), Zc cls d oe → (∃ vs, oe.data = .fields vs) → PSs (X.suite a ((a, oe) :: pn)) (b₀ :: suite) (ts a cls d)) (r : HdsMix X hds l) :
      HdsMix X (.ExceptHandler (some (.Name x np)) none (b₀ :: suite) pos' :: hds) ((c, none, ts) :: l)
  | as_ {x n : Str} {i : Nat} {c : Value} {ts : Addr → Value → Option Addr → TS} {b₀ : Stmt} {suite : List Stmt} {np pos' : Pos} {hds : List ExceptHandler} {l : List (Value × Option Nat × (Addr → Value → Option Addr → TS))} (hi : X.N[i]? = some n) (hln : X.env.kindOf n = some .local) (hc : Names X x c)
      (hsu : ∀ (a : Addr) (oe : Obj) (cls : Value) (d : Option Addr) (pn : List (Addr × Obj)), Zc cls d oe → (∃ vs, oe.data = .fields vs) → PSs (X.suite a ((a, oe) :: pn)) (b₀ :: suite) (ts a cls d)) (r : HdsMix X hds l) :
      HdsMix X (.ExceptHandler (some (.Name x np)) (some n) (b₀ :: suite) pos' :: hds) ((c, some i, ts) :: l)
section
variable {X : Cx} {body : List Stmt} {h₀ : ExceptHandler} {hds : List ExceptHandler} {l : List (Value × Option Nat × (Addr → Value → Option Addr → TS))} {pos : Pos} {tb : WX → TS} {Wout : WX}
end
abbrev HdS := Option Nat × Str × (Addr → Addr → Option Addr → SemS)
inductive QHs (X : Cx) (W : WX) (IO : List Nat) (cs : List Str) : List ExceptHandler → List HdS → Prop
  | nil : QHs X W IO cs [] []
  | only {y : Str} {ss : Addr → Addr → Option Addr → SemS} {b0 : Stmt} {suite : List Stmt} {np pos' : Pos} {hds : List ExceptHandler} {l : List HdS} (hy : y ∈ cs) (hgy : Gl X y)
      (hsu : ∀ (a C : Addr) (d : Option Addr) (pn : List (Addr × Obj)), Pn (X.suite a pn) a C d → QSs (X.suite a pn) W IO (b0 :: suite) (ss a C d)) (r : QHs X W IO cs hds l) (hdy : (y == ("__debug__" : Str)) = false := by decide) :
      QHs X W IO cs (.ExceptHandler (some (.Name y np)) none (b0 :: suite) pos' :: hds) ((none, y, ss) :: l)
  | as_ (i : Nat) {y n : Str} {ss : Addr → Addr → Option Addr → SemS} {b0 : Stmt} {suite : List Stmt} {np pos' : Pos} {hds : List ExceptHandler} {l : List HdS} (hy : y ∈ cs) (hgy : Gl X y)
      (hsu : ∀ (a C : Addr) (d : Option Addr) (pn : List (Addr × Obj)), Pn (X.suite a pn) a C d → QSs (X.suite a pn) W IO (b0 :: suite) (ss a C d)) (r : QHs X W IO cs hds l) (hi : X.N[i]? = some n := by rfl) (hln : X.env.kindOf n = some .local := by rfl) (hdy : (y == ("__debug__" : Str)) = false := by decide) (hio : i ∉ IO := by decide) :
      QHs X W IO cs (.ExceptHandler (some (.Name y np)) (some n) (b0 :: suite) pos' :: hds) ((some i, y, ss) :: l)
section
variable {X : Cx} {W : WX} {IO : List Nat} {ca : Str → Addr} {ns ts cs fs : List Str} {isa : Str → Str → Bool}
end
end QV

set_option Elab.async false
set_option linter.all false
set_option maxRecDepth 100000
set_option maxHeartbeats 2000000
namespace QV
open PySem PySem.Spec PyProof.Rows L2
open Classical in
noncomputable def lendIn (St : Addr → Prop) (ow : Ow) : Ow := fun a => if St a then .sl 0 else if ow a = .base then .base else .fr
open Classical in
noncomputable def lendBack (St : Addr → Prop) (H : Hp) (ow : Ow) (i m : Nat) (owc : Ow) : Ow := fun a => if (H a).isSome = true ∧ ¬ St a then ow a else match owc a with
  | .sl 0 => .sl i
  | .base => .base
  | .fr => .fr
  | _ => .tm m
section
variable {X : Cx} {W : WX} {Ma Mb : List Nat} {k : Nat} {ps : List Str} {spec : SemF} {ks : List (Option Nat)} {e : Expr} {es : List Expr} {pa : SemP} {qs : SemD} {x : Str} {p pos : Pos}
end
end QV

set_option Elab.async false
set_option linter.all false
set_option maxRecDepth 100000
set_option maxHeartbeats 2000000
namespace QV
open PySem PySem.Spec PyProof.Rows L2
open Classical in
noncomputable def lendIn2 (St : Addr → Prop) (c : Nat) (ow : Ow) : Ow := fun a => if St a then .sl 1 else if ow a = .sl c then .sl 0 else if ow a = .base then .base else .fr
open Classical in
noncomputable def lendBack2 (St : Addr → Prop) (H : Hp) (ow : Ow) (c i m : Nat) (owc : Ow) : Ow := fun a => if (H a).isSome = true ∧ ¬ (St a ∨ ow a = .sl c) then ow a else match owc a with
  | .sl 0 => .sl c
  | .sl 1 => .sl i
  | .base => .base
  | .fr => .fr
  | _ => .tm m
section
variable {X : Cx} {W : WX} {Ma Mb : List Nat} {k : Nat} {ps : List Str} {spec : SemF} {ks : List (Option Nat)} {e : Expr} {es : List Expr} {pa : SemP} {qs : SemD} {x y : Str} {p pos py : Pos}
end
end QV

set_option Elab.async false
set_option linter.all false
set_option maxRecDepth 100000
set_option maxHeartbeats 2000000
namespace QV
open PySem PySem.Spec PyProof.Rows L2
def spIni2 (K : PySem.W.Frag) (f g : Str) : Sp := fun vs H Q _ => ∃ a C y z, vs = [.ref a, y, z] ∧ OexC K C ∧ H a = some (exo a C none) ∧ PySem.W.findIn K (.ref C) f = some none ∧ PySem.W.findIn K (.ref C) g = some none ∧
  ∀ dx, H dx = none → dx ≠ a → Q .non (upd (upd (upd H dx (exd dx [(f, y)])) a (exo a C (some dx))) dx (exd dx [(g, z), (f, y)]))
structure BareG2 (P : Program) (w : World) (K : PySem.W.Frag) (mg : Str → Option Value) (base : Heap) (k : Nat) (x : Str) (C : Addr) (f g : Str) (ps : List Str) : Prop where
  at_ : mg x = some (.ref C)
  no1 : PySem.W.findIn K (.ref C) f = some none
  no2 : PySem.W.findIn K (.ref C) g = some none
  ex : ∃ fI fd, OexC K C ∧ PySem.W.findIn K (.ref C) "__init__" = some (some (.ref fI)) ∧ PySem.W.typeIn K (.ref fI) = some (.type "function") ∧ FnOk P w K mg base (L2.CX P w) k fI fd ps (spIni2 K f g) ∧ Binds K fd ps []
structure Bare2 (X : Cx) (k : Nat) (x : Str) (C : Addr) (f g : Str) (ps : List Str) : Prop where
  mg : X.mg x = some (.ref C)
  no1 : PySem.W.findIn X.K (.ref C) f = some none
  no2 : PySem.W.findIn X.K (.ref C) g = some none
  ex : ∃ fI fd, OexC X.K C ∧ PySem.W.findIn X.K (.ref C) "__init__" = some (some (.ref fI)) ∧ PySem.W.typeIn X.K (.ref fI) = some (.type "function") ∧ FnOk X.prog X.w X.K X.mg X.base (L2.CX X.prog X.w) k fI fd ps (spIni2 X.K f g) ∧ Binds X.K fd ps []
end QV

set_option Elab.async false
set_option linter.all false
set_option maxRecDepth 100000
set_option maxHeartbeats 2000000
namespace QV
open PySem PySem.Spec PyProof.Rows L2
def repLG (t u : T) (Q : T → Prop) : Prop := match u with
  | .fz (.int k) => ∃ ds, shL t = some ds ∧ (-(2 ^ 63) ≤ k ∧ k < 2 ^ 63) ∧ ds.length * k.toNat ≤ sizeLine ∧ Q (.ow .lst (List.replicate k.toNat ds).flatten)
  | _ => False
theorem rps_rep {K : PySem.W.Frag} {B : Hp} {vs : List V} {ds : List D} (h : Rps K B vs ds) : ∀ n : Nat, Rps K B (List.replicate n vs).flatten (List.replicate n ds).flatten
  | 0 => .nil
  | n + 1 => by
    rw [List.replicate_succ, List.replicate_succ, List.flatten_cons, List.flatten_cons]
    exact h.app (rps_rep h n)
theorem g_repL {K : PySem.W.Frag} : Op2 K rRep repLG := by
  intro H ow n x y t u Q Qv rx ry h k
  unfold repLG at h
  split at h
  · rename_i i
    obtain ⟨ds, e1, ⟨h1, h2⟩, hz, q⟩ := h
    obtain ⟨a, vs, rfl, c, hz1, rr⟩ := rx.lst e1
    have ey : y = .int i := ry.int
    refine ⟨a, i, vs, rfl, ey, c, h1, h2, by rw [rr.len]; exact hz, fun p hn => ?_⟩
    have rr2 := rps_rep rr i.toNat
    refine k _ _ _ (Ow.put ow p (.tm n)) (Stp.new hn) (Tq.newL hn ?_ rr2) q
    rw [rr2.len, List.length_flatten]
    simp only [List.map_replicate, List.sum_replicate_nat]
    rw [Nat.mul_comm]; exact hz
  · exact h.elim
section
variable {X : Cx} {W : WX} {Ma Mb : List Nat} {a b : Expr} {pa pb : SemP} {ra rb : Option Nat} {pos : Pos}
theorem q_mulL (ha : QP X W Ma ra a pa) (hb : QP X W Mb rb b pb) (hr : okR ra Mb = true := by decide) : QE X W (Ma ++ Mb) (.BinOp a .Mult b pos) (s2 pa pb repLG) := q_op op_rep g_repL ha hb hr
end
end QV

set_option Elab.async false
set_option linter.all false
set_option maxRecDepth 100000
set_option maxHeartbeats 2000000
namespace QV
open PySem PySem.Spec PyProof.Rows L2
def repS (x : Str) (k : Nat) : Str := ⟨(List.replicate k x.cps.toList).flatten.toArray⟩
def mulSG (t u : T) (Q : T → Prop) : Prop := match t, u with
  | .fz (.str x), .fz (.int k) => (1 ≤ k ∧ k ≤ 1000) ∧ x.length ≤ 1000 ∧ Q (.fz (.str (repS x k.toNat)))
  | _, _ => False
def rMulS : R2 := fun x y H Q => ∃ (a : Str) (k : Int), x = .str a ∧ y = .int k ∧ (1 ≤ k ∧ k ≤ 1000) ∧ a.length ≤ 1000 ∧ Q (.str (repS a k.toNat)) H
theorem repS_fold (a : Array Nat) : ∀ (n : Nat) (acc : Array Nat), (List.replicate n a).foldl (· ++ ·) acc = acc ++ (List.replicate n a.toList).flatten.toArray
  | 0, acc => by simp
  | n + 1, acc => by
    rw [List.replicate_succ, List.foldl_cons, repS_fold a n, List.replicate_succ, List.flatten_cons]
    apply Array.ext'
    simp
theorem repS_one (x : Str) : repS x 1 = x := by
  unfold repS
  cases x
  simp
theorem repS_nil (x : Str) (h : x.length = 0) (n : Nat) : repS x n = x := by
  have e : x.cps.toList = [] := List.eq_nil_of_length_eq_zero (by rw [Array.length_toList]; exact h)
  unfold repS
  rw [e]
  have : (List.replicate n ([] : List Nat)).flatten = [] := by simp
  rw [this]
  cases x with
  | mk c =>
    have : c = #[] := Array.eq_empty_of_size_eq_zero h
    rw [this]
theorem repS_len (x : Str) (n : Nat) : (repS x n).length = n * x.length := by
  show (List.replicate n x.cps.toList).flatten.toArray.size = _
  rw [List.size_toArray, List.length_flatten]
  simp only [List.map_replicate, List.sum_replicate_nat, Array.length_toList]
  rfl
theorem op_mulS {X : Cx} : OpR X (binaryOp .Mult) rMulS := by
  intro pins s σ H x y v u Q I rx ry h
  obtain ⟨a, k, rfl, rfl, ⟨h1, h2⟩, hz, q⟩ := h
  obtain ⟨t, rfl⟩ := rx
  obtain ⟨t', rfl⟩ := ry
  have hl : ¬ k < 1 := by omega
  have fin : ∀ (z : Str) (tk : Nat) (s' : Shared), z = repS a k.toNat → Inv X pins σ H s' → ∃ v' H', Inv X pins σ H' s' ∧ RelV v' (Value.str z tk) ∧ Q v' H' := fun z tk s' e I' => ⟨.str (repS a k.toNat), H, I', ⟨tk, by rw [e]⟩, q⟩
  have hmul : a.length * k.toNat ≤ 1000000 := Nat.le_trans (Nat.mul_le_mul hz (show k.toNat ≤ 1000 by omega)) (by decide)
  refine PySem.P.mul_str ?_ (fun _ _ => ?_) (fun _ _ => ?_) ?_
  · rw [decide_eq_false (by omega), decide_eq_false (by omega)]; rfl
  · have : (1000 : Int) ≤ (2 ^ 63 - 1) / k := Int.le_ediv_of_mul_le (by omega) (by omega)
    omega
  · unfold Builtin.Str.tooLong
    rw [decide_eq_false (by rw [sizeLine_eq]; omega)]
  · rw [if_neg hl]
    by_cases c : (k == 1 || a.length == 0) = true
    · rw [if_pos c]
      have e : a = repS a k.toNat := by
        simp only [Bool.or_eq_true, beq_iff_eq] at c
        rcases c with c | c
        · rw [c]; exact (repS_one a).symm
        · exact (repS_nil a c _).symm
      exact fin a t s e I
    · rw [if_neg c]
      refine ⟨?_, fin _ _ _ ?_ (I.tok _)⟩
      · have := repS_len a k.toNat
        unfold repS at this
        rw [repS_fold]
        rw [sizeLine_eq]
        have e : (⟨#[] ++ (List.replicate k.toNat a.cps.toList).flatten.toArray⟩ : Str) = ⟨(List.replicate k.toNat a.cps.toList).flatten.toArray⟩ := by simp
        rw [e, this, Nat.mul_comm]
        omega
      · unfold repS
        rw [repS_fold]
        simp
theorem g_mulS {K : PySem.W.Frag} : Op2 K rMulS mulSG := by
  intro H ow n x y t u Q Qv rx ry h k
  unfold mulSG at h
  split at h
  · exact ⟨_, _, rx.str, ry.int, h.1, h.2.1, k _ _ H ow Stp.refl (Tq.fz_.mpr (.str _)) h.2.2⟩
  · exact h.elim
section
variable {X : Cx} {W : WX} {Ma Mb : List Nat} {a b : Expr} {pa pb : SemP} {ra rb : Option Nat} {pos : Pos}
theorem q_mulS (ha : QP X W Ma ra a pa) (hb : QP X W Mb rb b pb) (hr : okR ra Mb = true := by decide) : QE X W (Ma ++ Mb) (.BinOp a .Mult b pos) (s2 pa pb mulSG) := q_op op_mulS g_mulS ha hb hr
theorem q_lrng2 {e1 e2 : Expr} {q1 q2 : SemE} {p p2 p3 : Pos} (hc : X.calm = true) (hg : Gl X "list") (hm : X.mg "list" = none) (hg2 : Gl X "range") (hm2 : X.mg "range" = none) (ha : QE X W Ma e1 q1) (hb : QE X W Mb e2 q2) (na : starEach [e1, e2] X.env = (false, eval e1 X.env) :: starEach [e2] X.env := by rfl)
    (nb : starEach [e2] X.env = (false, eval e2 X.env) :: starEach [] X.env := by rfl) (hp : (backTo p3 (starEach [e2] X.env)).any (·.1) = false := by rfl)
    (na2 : starEach [.Call (.Name "range" p2) [e1, e2] [] p3] X.env = (false, eval (.Call (.Name "range" p2) [e1, e2] [] p3) X.env) :: starEach [] X.env := by rfl) : QE X W (Ma ++ Mb) (.Call (.Name "list" p) [.Call (.Name "range" p2) [e1, e2] [] p3] [] pos)
      (fun env Q E => q1 env (fun t env1 => q2 env1 (fun u env2 => match t, u with | .fz (.int i), .fz (.int j) => 0 ≤ i ∧ i ≤ j ∧ j ≤ 16777216 ∧ Q (.ow .lst (rngD i (j - i).toNat)) env2 | _, _ => False) E) E) :=
  ⟨PE_imp (pe_listRg hc hg hm (prg_2 hg2 hm2 ha.run hb.run na nb hp) na2) fun σ H Qv ⟨n, ow, env, Q, E, s, hq, k, x⟩ => ⟨n, ow, env, _, E, s, hq, fun v t H1 ow1 env1 y1 s1 o1 r1 z1 =>
    ⟨n + 1, ow1, env1, _, E, s1, z1, fun w u H2 ow2 env2 y2 s2 o2 r2 z2 => by
      split at z2
      · rename_i i j
        have ev1 := Tq.rd r1
        cases ev1
        have ev2 := Tq.rd r2
        cases ev2
        obtain ⟨z3, z4, z5, z⟩ := z2
        refine ⟨i, j, rfl, rfl, RgOk.of_le (by omega) (by omega) (by omega) (by omega), fun p hp => ?_⟩
        have e1 : rgV i j = (List.range (j - i).toNat).map fun m => V.int (i + (m : Nat)) := rfl
        rw [e1]
        have rr : Rps X.K (Bs H2 ow2) ((List.range (j - i).toNat).map fun m => V.int (i + (m : Nat))) (rngD i (j - i).toNat) := by
          unfold rngD
          have := of_ints (K := X.K) (B := Bs H2 ow2) ((List.range (j - i).toNat).map fun m => (i + (m : Nat) : Int))
          rw [List.map_map, List.map_map] at this
          exact this
        have y12 := y1.trans y2 subl subr (Nat.le_refl _) (Nat.le_succ _) (M := Ma ++ Mb)
        exact k _ _ _ (Ow.put ow2 p (.tm n)) env2 (y12.trans (Stp.new hp) (fun _ h => h) nilsub (Nat.le_refl _) (Nat.le_refl _)) (s2.stp0 (n := n) (Stp.new hp)) (o1.trans o2 subl subr) (Tq.newL hp (by rw [List.length_map, List.length_range, sizeLine_eq]; omega) rr) z
      · exact z2.elim, x.step y1 o1 subl subr (Nat.le_refl _) (Nat.le_succ _)⟩, fun r d H' ow' env' y s' o => x r d H' ow' env' (y.mono subl (Nat.le_refl _)) s' (o.mono subl)⟩⟩
end
end QV

set_option Elab.async false
set_option linter.all false
set_option maxRecDepth 100000
set_option maxHeartbeats 4000000
namespace My
open PySem L2 QV
def top (i : Nat) : Stmt := PySem.Challenge.pw_bedstone_k23_bench_refused.main.body.getD i (.Pass ⟨0, 0, 0, 0⟩)
abbrev nsL : List Str := ["NoBed", "NoPiece", "TooMany", "Wrong"]
abbrev tsL : List Str := ["NoBed", "NoPiece", "TooMany", "Wrong"]
abbrev csL : List Str := ["StoneError"]
abbrev fsL : List Str := ["at", "most", "piece"]
def isaL (x y : Str) : Bool := decide (x = y) || decide (y = "StoneError")
abbrev s_ini_NoBed : Stmt := inCls (top 3) 0
theorem sc_ini_NoBed : FnScope ["self", "at"] ["self", "at"] (defScope s_ini_NoBed) := ⟨rfl, rfl, rfl, by decide +kernel, rfl, by decide +kernel, by decide +kernel⟩
theorem ini_NoBed {P : Program} {w : World} {K : PySem.W.Frag} {mg : Str → Option Value} {base : Heap} {f : Addr} {fd : FuncData} (Fu : Fun K "__init__" "NoBed.__init__" s_ini_NoBed f fd) (Bc : BaseC K mg "StoneError") : FnOk P w K mg base (L2.CX P w) 1 f fd ["self", "at"] (spIni1 K "at") := by
  obtain ⟨S, hm, h1, h2, h3⟩ := Bc
  refine Fu.okX sc_ini_NoBed (fun vs H Q E h => by obtain ⟨a, C, y, rfl, _⟩ := h; rfl) (fun cdv A outer s H vs Q E hr h => ?_)
  obtain ⟨a, C, y, rfl, T, at0, no, q⟩ := h
  refine ⟨_, pss_cons (ps_expr (pe_binit (by rfl) hm h1 h2 h3 (pa_cons (pv 0) (pa_cons pe_str pa_nil)))) (pss_one (ps_ost (f := "at") (pv 0) (pv 1))), ?_⟩
  refine ⟨.ref a, rfl, a, C, [_], rfl, by decide, T, at0, ?_⟩
  exact ⟨y, rfl, .ref a, rfl, a, C, rfl, T, no, .inl ⟨at0, fun dx h1 h2 => q dx h1 h2⟩⟩
abbrev s_ini_NoPiece : Stmt := inCls (top 5) 0
theorem sc_ini_NoPiece : FnScope ["self", "piece"] ["self", "piece"] (defScope s_ini_NoPiece) := ⟨rfl, rfl, rfl, by decide +kernel, rfl, by decide +kernel, by decide +kernel⟩
theorem ini_NoPiece {P : Program} {w : World} {K : PySem.W.Frag} {mg : Str → Option Value} {base : Heap} {f : Addr} {fd : FuncData} (Fu : Fun K "__init__" "NoPiece.__init__" s_ini_NoPiece f fd) (Bc : BaseC K mg "StoneError") : FnOk P w K mg base (L2.CX P w) 1 f fd ["self", "piece"] (spIni1 K "piece") := by
  obtain ⟨S, hm, h1, h2, h3⟩ := Bc
  refine Fu.okX sc_ini_NoPiece (fun vs H Q E h => by obtain ⟨a, C, y, rfl, _⟩ := h; rfl) (fun cdv A outer s H vs Q E hr h => ?_)
  obtain ⟨a, C, y, rfl, T, at0, no, q⟩ := h
  refine ⟨_, pss_cons (ps_expr (pe_binit (by rfl) hm h1 h2 h3 (pa_cons (pv 0) (pa_cons pe_str pa_nil)))) (pss_one (ps_ost (f := "piece") (pv 0) (pv 1))), ?_⟩
  refine ⟨.ref a, rfl, a, C, [_], rfl, by decide, T, at0, ?_⟩
  exact ⟨y, rfl, .ref a, rfl, a, C, rfl, T, no, .inl ⟨at0, fun dx h1 h2 => q dx h1 h2⟩⟩
abbrev s_ini_TooMany : Stmt := inCls (top 4) 0
theorem sc_ini_TooMany : FnScope ["self", "most"] ["self", "most"] (defScope s_ini_TooMany) := ⟨rfl, rfl, rfl, by decide +kernel, rfl, by decide +kernel, by decide +kernel⟩
theorem ini_TooMany {P : Program} {w : World} {K : PySem.W.Frag} {mg : Str → Option Value} {base : Heap} {f : Addr} {fd : FuncData} (Fu : Fun K "__init__" "TooMany.__init__" s_ini_TooMany f fd) (Bc : BaseC K mg "StoneError") : FnOk P w K mg base (L2.CX P w) 1 f fd ["self", "most"] (spIni1 K "most") := by
  obtain ⟨S, hm, h1, h2, h3⟩ := Bc
  refine Fu.okX sc_ini_TooMany (fun vs H Q E h => by obtain ⟨a, C, y, rfl, _⟩ := h; rfl) (fun cdv A outer s H vs Q E hr h => ?_)
  obtain ⟨a, C, y, rfl, T, at0, no, q⟩ := h
  refine ⟨_, pss_cons (ps_expr (pe_binit (by rfl) hm h1 h2 h3 (pa_cons (pv 0) (pa_cons pe_str pa_nil)))) (pss_one (ps_ost (f := "most") (pv 0) (pv 1))), ?_⟩
  refine ⟨.ref a, rfl, a, C, [_], rfl, by decide, T, at0, ?_⟩
  exact ⟨y, rfl, .ref a, rfl, a, C, rfl, T, no, .inl ⟨at0, fun dx h1 h2 => q dx h1 h2⟩⟩
abbrev s_ini_Wrong : Stmt := inCls (top 2) 0
theorem sc_ini_Wrong : FnScope ["self", "at"] ["self", "at"] (defScope s_ini_Wrong) := ⟨rfl, rfl, rfl, by decide +kernel, rfl, by decide +kernel, by decide +kernel⟩
theorem ini_Wrong {P : Program} {w : World} {K : PySem.W.Frag} {mg : Str → Option Value} {base : Heap} {f : Addr} {fd : FuncData} (Fu : Fun K "__init__" "Wrong.__init__" s_ini_Wrong f fd) (Bc : BaseC K mg "StoneError") : FnOk P w K mg base (L2.CX P w) 1 f fd ["self", "at"] (spIni1 K "at") := by
  obtain ⟨S, hm, h1, h2, h3⟩ := Bc
  refine Fu.okX sc_ini_Wrong (fun vs H Q E h => by obtain ⟨a, C, y, rfl, _⟩ := h; rfl) (fun cdv A outer s H vs Q E hr h => ?_)
  obtain ⟨a, C, y, rfl, T, at0, no, q⟩ := h
  refine ⟨_, pss_cons (ps_expr (pe_binit (by rfl) hm h1 h2 h3 (pa_cons (pv 0) (pa_cons pe_str pa_nil)))) (pss_one (ps_ost (f := "at") (pv 0) (pv 1))), ?_⟩
  refine ⟨.ref a, rfl, a, C, [_], rfl, by decide, T, at0, ?_⟩
  exact ⟨y, rfl, .ref a, rfl, a, C, rfl, T, no, .inl ⟨at0, fun dx h1 h2 => q dx h1 h2⟩⟩
structure Bt (mg : Str → Option Value) : Prop where
  ValueError : mg "ValueError" = none
  abs : mg "abs" = none
  all : mg "all" = none
  any : mg "any" = none
  bool : mg "bool" = none
  enumerate : mg "enumerate" = none
  int : mg "int" = none
  isinstance : mg "isinstance" = none
  len : mg "len" = none
  list : mg "list" = none
  min : mg "min" = none
  range : mg "range" = none
  repr : mg "repr" = none
  str : mg "str" = none
  sum : mg "sum" = none
  tuple : mg "tuple" = none
  g_FAR : ∃ t, mg "FAR" = some (.int 1000000 t)
  g_FARTHEST : ∃ t, mg "FARTHEST" = some (.int 1000000 t)
  g_LETTERS : ∃ t, mg "LETTERS" = some (.str ("abcdefghijklmnopqrstuvwxyz" : Str) t)
  g_LONGEST_GRAIN : ∃ t, mg "LONGEST_GRAIN" = some (.int 8 t)
  g_MOST_BEDS : ∃ t, mg "MOST_BEDS" = some (.int 6 t)
  g_MOST_HEAVY : ∃ t, mg "MOST_HEAVY" = some (.int 1000 t)
  g_MOST_JOINTS : ∃ t, mg "MOST_JOINTS" = some (.int 23 t)
  g_MOST_MEASURE : ∃ t, mg "MOST_MEASURE" = some (.int 1000000 t)
  g_MOST_PIECES : ∃ t, mg "MOST_PIECES" = some (.int 24 t)

abbrev s_is_whole : Stmt := top 10
theorem sc_is_whole : FnScope ["thing"] ["thing"] (defScope s_is_whole) := ⟨rfl, rfl, rfl, by decide +kernel, rfl, by decide +kernel, by decide +kernel⟩
abbrev s_is_between : Stmt := top 11
theorem sc_is_between : FnScope ["thing", "least", "most"] ["thing", "least", "most"] (defScope s_is_between) := ⟨rfl, rfl, rfl, by decide +kernel, rfl, by decide +kernel, by decide +kernel⟩
abbrev s_are_between : Stmt := top 12
theorem sc_are_between : FnScope ["things", "least", "most", "thing"] ["things", "least", "most"] (defScope s_are_between) := ⟨rfl, rfl, rfl, by decide +kernel, rfl, by decide +kernel, by decide +kernel⟩
abbrev s_is_measure : Stmt := top 13
theorem sc_is_measure : FnScope ["thing"] ["thing"] (defScope s_is_measure) := ⟨rfl, rfl, rfl, by decide +kernel, rfl, by decide +kernel, by decide +kernel⟩
abbrev s_is_spot : Stmt := top 14
theorem sc_is_spot : FnScope ["thing"] ["thing"] (defScope s_is_spot) := ⟨rfl, rfl, rfl, by decide +kernel, rfl, by decide +kernel, by decide +kernel⟩
abbrev s_is_point : Stmt := top 15
theorem sc_is_point : FnScope ["thing"] ["thing"] (defScope s_is_point) := ⟨rfl, rfl, rfl, by decide +kernel, rfl, by decide +kernel, by decide +kernel⟩
abbrev s_is_grain : Stmt := top 16
theorem sc_is_grain : FnScope ["thing", "sign"] ["thing"] (defScope s_is_grain) := ⟨rfl, rfl, rfl, by decide +kernel, rfl, by decide +kernel, by decide +kernel⟩
abbrev s_is_box : Stmt := top 19
theorem sc_is_box : FnScope ["thing", "axis"] ["thing"] (defScope s_is_box) := ⟨rfl, rfl, rfl, by decide +kernel, rfl, by decide +kernel, by decide +kernel⟩
abbrev s_refuse_wrong : Stmt := top 20
theorem sc_refuse_wrong : FnScope ["rights", "at", "right"] ["rights"] (defScope s_refuse_wrong) := ⟨rfl, rfl, rfl, by decide +kernel, rfl, by decide +kernel, by decide +kernel⟩
abbrev s_has_point : Stmt := top 21
theorem sc_has_point : FnScope ["box", "point", "axis"] ["box", "point"] (defScope s_has_point) := ⟨rfl, rfl, rfl, by decide +kernel, rfl, by decide +kernel, by decide +kernel⟩
abbrev s_are_joints : Stmt := top 28
theorem sc_are_joints : FnScope ["thing", "spot"] ["thing"] (defScope s_are_joints) := ⟨rfl, rfl, rfl, by decide +kernel, rfl, by decide +kernel, by decide +kernel⟩
abbrev s_is_bed : Stmt := top 29
theorem sc_is_bed : FnScope ["thing"] ["thing"] (defScope s_is_bed) := ⟨rfl, rfl, rfl, by decide +kernel, rfl, by decide +kernel, by decide +kernel⟩
abbrev s_are_beds : Stmt := top 30
theorem sc_are_beds : FnScope ["thing", "bed"] ["thing"] (defScope s_are_beds) := ⟨rfl, rfl, rfl, by decide +kernel, rfl, by decide +kernel, by decide +kernel⟩
abbrev s_joints_stand : Stmt := top 31
theorem sc_joints_stand : FnScope ["joints", "end", "last", "joint"] ["joints", "end"] (defScope s_joints_stand) := ⟨rfl, rfl, rfl, by decide +kernel, rfl, by decide +kernel, by decide +kernel⟩
abbrev s_stretches_of : Stmt := top 32
theorem sc_stretches_of : FnScope ["joints", "end", "edges", "k"] ["joints", "end"] (defScope s_stretches_of) := ⟨rfl, rfl, rfl, by decide +kernel, rfl, by decide +kernel, by decide +kernel⟩
abbrev s_like_bed : Stmt := top 33
theorem sc_like_bed : FnScope ["bed"] ["bed"] (defScope s_like_bed) := ⟨rfl, rfl, rfl, by decide +kernel, rfl, by decide +kernel, by decide +kernel⟩
abbrev s_pieces_of : Stmt := top 34
theorem sc_pieces_of : FnScope ["length", "width", "bed", "z", "found", "x", "long", "y", "wide"] ["length", "width", "bed", "z"] (defScope s_pieces_of) := ⟨rfl, rfl, rfl, by decide +kernel, rfl, by decide +kernel, by decide +kernel⟩
abbrev s_Bench_init : Stmt := inCls (top 35) 0
theorem sc_Bench_init : FnScope ["self", "length", "width", "beds", "bed", "top", "at", "z"] ["self", "length", "width", "beds"] (defScope s_Bench_init) := ⟨rfl, rfl, rfl, by decide +kernel, rfl, by decide +kernel, by decide +kernel⟩
abbrev s_Bench_size : Stmt := inCls (top 35) 1
theorem sc_Bench_size : FnScope ["self"] ["self"] (defScope s_Bench_size) := ⟨rfl, rfl, rfl, by decide +kernel, rfl, by decide +kernel, by decide +kernel⟩
abbrev s_Bench_beds : Stmt := inCls (top 35) 2
theorem sc_Bench_beds : FnScope ["self", "bed"] ["self"] (defScope s_Bench_beds) := ⟨rfl, rfl, rfl, by decide +kernel, rfl, by decide +kernel, by decide +kernel⟩
abbrev s_Bench_many : Stmt := inCls (top 35) 3
theorem sc_Bench_many : FnScope ["self"] ["self"] (defScope s_Bench_many) := ⟨rfl, rfl, rfl, by decide +kernel, rfl, by decide +kernel, by decide +kernel⟩
abbrev s_Bench_piece_kept : Stmt := inCls (top 35) 4
theorem sc_Bench_piece_kept : FnScope ["self", "piece"] ["self", "piece"] (defScope s_Bench_piece_kept) := ⟨rfl, rfl, rfl, by decide +kernel, rfl, by decide +kernel, by decide +kernel⟩
abbrev s_Bench_box : Stmt := inCls (top 35) 5
theorem sc_Bench_box : FnScope ["self", "piece"] ["self", "piece"] (defScope s_Bench_box) := ⟨rfl, rfl, rfl, by decide +kernel, rfl, by decide +kernel, by decide +kernel⟩
abbrev s_Bench_grain : Stmt := inCls (top 35) 6
theorem sc_Bench_grain : FnScope ["self", "piece"] ["self", "piece"] (defScope s_Bench_grain) := ⟨rfl, rfl, rfl, by decide +kernel, rfl, by decide +kernel, by decide +kernel⟩
abbrev s_Bench_heavy : Stmt := inCls (top 35) 7
theorem sc_Bench_heavy : FnScope ["self", "piece"] ["self", "piece"] (defScope s_Bench_heavy) := ⟨rfl, rfl, rfl, by decide +kernel, rfl, by decide +kernel, by decide +kernel⟩
abbrev s_Bench_piece_at : Stmt := inCls (top 35) 8
theorem sc_Bench_piece_at : FnScope ["self", "point", "at", "kept"] ["self", "point"] (defScope s_Bench_piece_at) := ⟨rfl, rfl, rfl, by decide +kernel, rfl, by decide +kernel, by decide +kernel⟩
abbrev s_bag : Stmt := top 37
theorem sc_bag : FnScope ["_law_script", "_law_cell"] ["_law_script"] (defScope s_bag) := ⟨rfl, rfl, rfl, by decide +kernel, rfl, by decide +kernel, by decide +kernel⟩
abbrev s_take : Stmt := top 38
theorem sc_take : FnScope ["_law_bag_here", "_law_many", "_law_cell", "_law_value", "_law_first", "_law_second"] ["_law_bag_here", "_law_many"] (defScope s_take) := ⟨rfl, rfl, rfl, by decide +kernel, rfl, by decide +kernel, by decide +kernel⟩
abbrev s_alike : Stmt := top 39
theorem sc_alike : FnScope ["_law_found", "_law_due_here"] ["_law_found", "_law_due_here"] (defScope s_alike) := ⟨rfl, rfl, rfl, by decide +kernel, rfl, by decide +kernel, by decide +kernel⟩
abbrev s_grains : Stmt := top 40
theorem sc_grains : FnScope ["_law_bag_here", "_law_letters", "_law_words", "_law_drawn", "_law_k", "_law_way", "_law_name", "_law_j"] ["_law_bag_here"] (defScope s_grains) := ⟨rfl, rfl, rfl, by decide +kernel, rfl, by decide +kernel, by decide +kernel⟩
abbrev s_rising : Stmt := top 41
theorem sc_rising : FnScope ["_law_bag_here", "_law_count", "_law_end", "_law_found", "_law_at", "_law_many", "_law_k", "_law_room", "_law_near"] ["_law_bag_here", "_law_count", "_law_end"] (defScope s_rising) := ⟨rfl, rfl, rfl, by decide +kernel, rfl, by decide +kernel, by decide +kernel⟩
abbrev s_measure : Stmt := top 42
theorem sc_measure : FnScope ["_law_bag_here"] ["_law_bag_here"] (defScope s_measure) := ⟨rfl, rfl, rfl, by decide +kernel, rfl, by decide +kernel, by decide +kernel⟩
abbrev s_bed : Stmt := top 43
theorem sc_bed : FnScope ["_law_bag_here", "_law_grains_here", "_law_height", "_law_cap", "_law_length", "_law_width", "_law_across", "_law_along", "_law_heavy", "_law_grain"] ["_law_bag_here", "_law_grains_here", "_law_height", "_law_cap", "_law_length", "_law_width"] (defScope s_bed) := ⟨rfl, rfl, rfl, by decide +kernel, rfl, by decide +kernel, by decide +kernel⟩
abbrev s_bench : Stmt := top 44
theorem sc_bench : FnScope ["_law_bag_here", "_law_grains_here", "_law_length", "_law_width", "_law_deep", "_law_cap", "_law_full", "_law_lone", "_law_beds", "_law_k", "_law_height", "_law_bed_here"] ["_law_bag_here"] (defScope s_bench) := ⟨rfl, rfl, rfl, by decide +kernel, rfl, by decide +kernel, by decide +kernel⟩
abbrev s_copy : Stmt := top 45
theorem sc_copy : FnScope ["_law_beds", "_law_bed_here"] ["_law_beds"] (defScope s_copy) := ⟨rfl, rfl, rfl, by decide +kernel, rfl, by decide +kernel, by decide +kernel⟩
abbrev s_sort : Stmt := top 46
theorem sc_sort : FnScope ["_law_e", "_law_sorts"] ["_law_e"] (defScope s_sort) := ⟨rfl, rfl, rfl, by decide +kernel, rfl, by decide +kernel, by decide +kernel⟩
abbrev s_made : Stmt := top 47
theorem sc_made : FnScope ["_law_length", "_law_width", "_law_beds", "_law_e"] ["_law_length", "_law_width", "_law_beds"] (defScope s_made) := ⟨rfl, rfl, rfl, by decide +kernel, rfl, by decide +kernel, by decide +kernel⟩
abbrev s_asked : Stmt := top 48
theorem sc_asked : FnScope ["_law_bench_here", "_law_word", "_law_thing", "_law_e"] ["_law_bench_here", "_law_word", "_law_thing"] (defScope s_asked) := ⟨rfl, rfl, rfl, by decide +kernel, rfl, by decide +kernel, by decide +kernel⟩
abbrev s_due : Stmt := top 49
theorem sc_due : FnScope ["_law_length", "_law_width", "_law_beds", "_law_top", "_law_at", "_law_bed_here", "_law_joints", "_law_end", "_law_edges_here", "_law_k"] ["_law_length", "_law_width", "_law_beds"] (defScope s_due) := ⟨rfl, rfl, rfl, by decide +kernel, rfl, by decide +kernel, by decide +kernel⟩
abbrev s_spoilt : Stmt := top 50
theorem sc_spoilt : FnScope ["_law_bag_here", "_law_joints", "_law_end", "_law_way", "_law_at", "_law_odd"] ["_law_bag_here", "_law_joints", "_law_end"] (defScope s_spoilt) := ⟨rfl, rfl, rfl, by decide +kernel, rfl, by decide +kernel, by decide +kernel⟩
abbrev s_wild : Stmt := top 51
theorem sc_wild : FnScope ["_law_bag_here", "_law_length", "_law_width", "_law_grains_here", "_law_rare", "_law_high", "_law_beds", "_law_k", "_law_cap", "_law_bed_here", "_law_place", "_law_end"] ["_law_bag_here"] (defScope s_wild) := ⟨rfl, rfl, rfl, by decide +kernel, rfl, by decide +kernel, by decide +kernel⟩
abbrev s_bad_measure : Stmt := top 52
theorem sc_bad_measure : FnScope ["_law_bag_here"] ["_law_bag_here"] (defScope s_bad_measure) := ⟨rfl, rfl, rfl, by decide +kernel, rfl, by decide +kernel, by decide +kernel⟩
abbrev s_bad_joints : Stmt := top 53
theorem sc_bad_joints : FnScope ["_law_bag_here", "_law_joints", "_law_odd", "_law_at", "_law_some"] ["_law_bag_here", "_law_joints"] (defScope s_bad_joints) := ⟨rfl, rfl, rfl, by decide +kernel, rfl, by decide +kernel, by decide +kernel⟩
abbrev s_bad_bed : Stmt := top 54
theorem sc_bad_bed : FnScope ["_law_bag_here", "_law_bed_here", "_law_fields", "_law_way", "_law_at"] ["_law_bag_here", "_law_bed_here"] (defScope s_bad_bed) := ⟨rfl, rfl, rfl, by decide +kernel, rfl, by decide +kernel, by decide +kernel⟩
abbrev s_bad_beds : Stmt := top 55
theorem sc_bad_beds : FnScope ["_law_bag_here", "_law_beds", "_law_way", "_law_at", "_law_found"] ["_law_bag_here", "_law_beds"] (defScope s_bad_beds) := ⟨rfl, rfl, rfl, by decide +kernel, rfl, by decide +kernel, by decide +kernel⟩
abbrev s_wrongs : Stmt := top 56
theorem sc_wrongs : FnScope ["_law_bag_here", "_law_length", "_law_width", "_law_beds", "_law_at", "_law_things", "_law_k", "_law_kept", "_law_turn"] ["_law_bag_here", "_law_length", "_law_width", "_law_beds"] (defScope s_wrongs) := ⟨rfl, rfl, rfl, by decide +kernel, rfl, by decide +kernel, by decide +kernel⟩
abbrev s_pieces_refused : Stmt := top 57
theorem sc_pieces_refused : FnScope ["_law_bag_here", "_law_bench_here", "_law_many", "_law_far", "_law_lacking", "_law_wrong", "_law_word", "_law_piece", "_law_thing", "_law_turn", "_law_odd", "_law_point", "_law_some"] ["_law_bag_here", "_law_bench_here"] (defScope s_pieces_refused) := ⟨rfl, rfl, rfl, by decide +kernel, rfl, by decide +kernel, by decide +kernel⟩
abbrev s_edges : Stmt := top 58
theorem sc_edges : FnScope ["_law_bag_here", "_law_grain", "_law_far", "_law_plain", "_law_full", "_law_found"] ["_law_bag_here"] (defScope s_edges) := ⟨rfl, rfl, rfl, by decide +kernel, rfl, by decide +kernel, by decide +kernel⟩
abbrev s_shown : Stmt := top 59
theorem sc_shown : FnScope ["_law_bench_here", "_law_found", "_law_k"] ["_law_bench_here"] (defScope s_shown) := ⟨rfl, rfl, rfl, by decide +kernel, rfl, by decide +kernel, by decide +kernel⟩
abbrev s_law : Stmt := top 60
theorem sc_law : FnScope ["_law_script", "_law_bag_here", "_law_length", "_law_width", "_law_beds", "_law_bench_here", "_law_shown_here", "_law_k", "_law_long", "_law_wide", "_law_wild_here", "_law_due_here", "_law_turn", "_law_handed", "_law_beds_at_edge", "_law_asked_here"] ["_law_script"] (defScope s_law) := ⟨rfl, rfl, rfl, by decide +kernel, rfl, by decide +kernel, by decide +kernel⟩
local macro_rules | `(tactic| walk_at "v") => `(tactic| first
  | refine ⟨_, rfl, ?_⟩
  | refine ⟨.inl rfl, ?_⟩
  | refine ⟨rfl, ?_⟩
  | refine ⟨cmulR (by decide) (by decide), ?_⟩
  | refine ⟨cmulL (by decide) (by decide), ?_⟩
  | refine ⟨cmulR (by omega) (by omega), ?_⟩
  | refine ⟨cmulL (by omega) (by omega), ?_⟩
  | refine ⟨show (0 : Int) < _ by omega, ?_⟩
  | refine ⟨cdivS (by omega) (by omega), ?_⟩
  | refine ⟨cdivB (by omega) (by omega), ?_⟩
  | refine ⟨show CPow _ _ from ⟨by decide, by decide, by decide⟩, ?_⟩
  | refine ⟨_, _, rfl, (show IsBag _ by assumption), (show (0 : Int) < _ by omega), (by omega), fun _ _ _ _ _ => ?_⟩
  | walk_at "m")
local macro_rules | `(tactic| walk_at "vs") => `(tactic| repeat walk_at "v")
local macro_rules | `(tactic| walk_at "vn") => `(tactic| repeat (walk_at "v"; walk_at "nf"))
local macro_rules | `(tactic| walk_at "m") => `(tactic| refine ⟨_, fun _ => (by (walk_at "vs"); first | exact rfl | exact ⟨rfl, rfl⟩), ?_⟩)
local macro_rules | `(tactic| walk_at "w") => `(tactic| conv => whnf)
local macro_rules | `(tactic| walk_at "so") => `(tactic| first | omega | (simp; done) | (simp; omega) | (simp at *; omega))
local macro_rules | `(tactic| walk_at "nf") => `(tactic| try dsimp only [env0, putE_nil, putE_cons, putO_nil, putO_cons, nf_set0, nf_setS, wipeE, rstE, nf_map, nf_map0, nf_app, nf_app0, List.length_cons, List.length_nil, Nat.reduceAdd, Nat.reduceSub, List.replicate_succ, List.replicate_zero])
local macro_rules | `(tactic| walk_at "no") => `(tactic| refine ⟨.inl rfl, fun z => absurd z (by simp [eqD, T.d]), fun _ => ?_⟩)
local macro_rules | `(tactic| walk_at "yes") => `(tactic| refine ⟨.inl rfl, fun _ => ?_, fun z => absurd z (by simp [eqD, T.d])⟩)
local macro_rules | `(tactic| walk_at "ns") => `(tactic| refine ⟨.inl rfl, fun z => absurd z (by decide +kernel), fun _ => ?_⟩)
local macro_rules | `(tactic| walk_at "sk") => `(tactic| (walk_at "nf"; repeat (walk_at "ns"; walk_at "nf")))
local macro_rules | `(tactic| walk_at "sy") => `(tactic| (walk_at "sk"; walk_at "yes"; walk_at "nf"))

def M6 (i : Int) : Prop := 1 ≤ i ∧ i ≤ 1000000
abbrev abcL : List Nat := ("abcdefghijklmnopqrstuvwxyz" : Str).cps.toList
def gLet (g : Str) : Prop := 1 ≤ g.length ∧ g.length ≤ 8 ∧ ∀ c, c ∈ g.cps.toList → c ∈ abcL
def grainsS : SemF := fun args Q E => ∃ t, args = [t] ∧ IsBag t ∧ ∀ (gs : List Str) t', (∀ g, g ∈ gs → gLet g) → 1 ≤ gs.length → gs.length ≤ 3 → IsBag t' → Q (.fz (.nd .lst (gs.map .str))) [t']
abbrev intsD (xs : List Int) : D := .nd .lst (xs.map .int)

def sml (k n : Nat) (d : D) : Prop := d.pl n = true ∧ shrt d = true ∧ szD d ≤ k
theorem sml_int {n : Nat} {i : Int} (h : -(10 ^ 30) < i ∧ i < 10 ^ 30) : sml 140 n (.int i) := ⟨by cases n <;> rfl, by simp only [shrt, decide_eq_true_eq]; omega, Nat.le_refl _⟩
theorem abc_lt {c : Nat} (h : c ∈ abcL) : c < 128 := by
  have : (abcL.all fun c => decide (c < 128)) = true := by decide +kernel
  simpa using List.all_eq_true.mp this c h
theorem sml_strL {n m : Nat} {g : Str} (h : g.cps.size ≤ m) (h2 : ∀ c, c ∈ g.cps.toList → c < 128) : sml m n (.str g) := by
  refine ⟨?_, ?_, h⟩
  · cases n <;> (simp only [D.pl, PyData.strOk]; rw [← Array.all_toList, List.all_eq_true]; exact fun c hc => by have := h2 c hc; simp; omega)
  · simp only [shrt, List.all_eq_true, decide_eq_true_eq]
    exact fun c hc => by have := h2 c hc; omega
theorem sml_let {n : Nat} {g : Str} (h : gLet g) : sml 8 n (.str g) := sml_strL h.2.1 fun c hc => abc_lt (h.2.2 c hc)
theorem sml_mono {k m n : Nat} {d : D} (h : sml k n d) (l : k ≤ m) : sml m n d := ⟨h.1, h.2.1, Nat.le_trans h.2.2 l⟩
theorem sml_lstD {k n m : Nat} {ds : List D} (h : ∀ d, d ∈ ds → sml k n d) (hl : ds.length ≤ m) : sml (m * (k + 1)) (n + 1) (.nd .lst ds) :=
  ⟨pl_lst fun d hd => (h d hd).1, shrts_all fun d hd => (h d hd).2.1, Nat.le_trans (szDs_le fun d hd => (h d hd).2.2) (Nat.mul_le_mul hl (Nat.le_refl _))⟩
theorem sml_lst {α : Type} {k n m : Nat} {l : List α} {f : α → D} (h : ∀ a, a ∈ l → sml k n (f a)) (hl : l.length ≤ m) : sml (m * (k + 1)) (n + 1) (.nd .lst (l.map f)) := sml_lstD (fun d hd => by
  obtain ⟨a, ha, rfl⟩ := List.mem_map.mp hd; exact h a ha) (by rw [List.length_map]; exact hl)
inductive smls (n : Nat) : Nat → List D → Prop
  | nil : smls n 0 []
  | cons {k m : Nat} {d : D} {ds : List D} : sml k n d → smls n m ds → smls n (k + 1 + m) (d :: ds)
theorem smls.and {n k : Nat} {ds : List D} (h : smls n k ds) : Dspl n ds = true ∧ shrts ds = true ∧ szDs ds ≤ k := by
  induction h with
  | nil => exact ⟨rfl, rfl, Nat.le_refl _⟩
  | cons a _ ih => exact ⟨by simp [Dspl, a.1, ih.1], by simp [shrts, a.2.1, ih.2.1], by have := a.2.2; have := ih.2.2; simp only [szDs]; omega⟩
theorem sml_tup {k n : Nat} {ds : List D} (h : smls n k ds) : sml k (n + 1) (.nd .tup ds) := ⟨by rw [D.pl]; exact h.and.1, h.and.2.1, h.and.2.2⟩
theorem szN {n : Nat} (h : n ≤ 16777216) : n ≤ sizeLine := by rw [sizeLine_eq]; exact h
theorem szI {i : Int} (h : i ≤ 16777216) : i ≤ ((sizeLine : Nat) : Int) := by rw [sizeLine_eq]; exact h
theorem szL {n : Nat} (h : n < 16777216) : n < sizeLine := by rw [sizeLine_eq]; exact h
theorem sml_al {k : Nat} {d : D} (h : sml k 64 d) (hk : k ≤ 262144) : d.pl 64 = true ∧ shwD d := ⟨h.1, shw_of h.2.1 (Nat.le_trans h.2.2 hk)⟩

structure Bx where
  (x y z l w h : Int)
def Bx.ok (b : Bx) : Prop := (0 ≤ b.x ∧ 1 ≤ b.l ∧ b.x + b.l ≤ 1000000) ∧ (0 ≤ b.y ∧ 1 ≤ b.w ∧ b.y + b.w ≤ 1000000) ∧ (0 ≤ b.z ∧ 1 ≤ b.h ∧ b.z + b.h ≤ 1000000)
abbrev bxD (b : Bx) : D := .nd .tup [.int b.x, .int b.y, .int b.z, .int b.l, .int b.w, .int b.h]
abbrev pt3 (a b c : Int) : D := .nd .tup [.int a, .int b, .int c]
def iB : D → Option Int | .int i => some i | _ => none
def whB (d : D) : Bool := (iB d).isSome
def btB (d : D) (lo hi : Int) : Bool := match iB d with | some i => decide (lo ≤ i ∧ i ≤ hi) | none => false
def axB (a l : D) : Bool := match iB a, iB l with | some a, some l => decide (0 ≤ a ∧ 1 ≤ l ∧ a + l ≤ 1000000) | _, _ => false
def bxB : D → Bool | .nd .tup [a, b, c, l, w, h] => axB a l && (axB b w && axB c h) | _ => false
def ptB : D → Bool | .nd .tup [a, b, c] => btB a 0 1000000 && (btB b 0 1000000 && btB c 0 1000000) | _ => false
theorem ax_ok {x l : Int} : axB (.int x) (.int l) = true ↔ 0 ≤ x ∧ 1 ≤ l ∧ x + l ≤ 1000000 := by
  simp [axB, iB]
theorem bx_ok {b : Bx} (h : b.ok) : bxB (bxD b) = true := by
  obtain ⟨h1, h2, h3⟩ := h
  simp only [bxB, ax_ok.mpr h1, ax_ok.mpr h2, ax_ok.mpr h3, Bool.and_self]
def inAx (x l p : Int) : Bool := decide (x ≤ p ∧ p < x + l)
def Bx.has (b : Bx) (p q r : Int) : Bool := inAx b.x b.l p && (inAx b.y b.w q && inAx b.z b.h r)
def ff (bs : List Bool) : Option Nat := bs.findIdx? (fun b => !b)
abbrev blsD (bs : List Bool) : D := .nd .lst (bs.map .bl)
def tyD (d : D) : Bool := (tyN d).isSome
def tyA (d : D) : Bool := tyD d && match d with | .nd .tup ds => ds.all tyD | _ => true
def wholeS : SemF := fun args Q E => ∃ d, args = [.fz d] ∧ tyD d = true ∧ Q (.fz (.bl (whB d))) []
def betweenS : SemF := fun args Q E => ∃ d, ∃ lo hi : Int, args = [.fz d, .fz (.int lo), .fz (.int hi)] ∧ tyD d = true ∧ Q (.fz (.bl (btB d lo hi))) []
def areS : SemF := fun args Q E => ∃ ds, ∃ lo hi : Int, args = [.fz (.nd .tup ds), .fz (.int lo), .fz (.int hi)] ∧ ds.all tyD = true ∧ Q (.fz (.bl (ds.all fun d => btB d lo hi))) []
def measureS : SemF := fun args Q E => ∃ d, args = [.fz d] ∧ tyD d = true ∧ Q (.fz (.bl (btB d 1 1000000))) []
def spotS : SemF := fun args Q E => ∃ d, args = [.fz d] ∧ tyD d = true ∧ Q (.fz (.bl (btB d 0 1000000))) []
def noF (_ : Nat) (_ : Rz → List T → Prop) : Prop := False
def boxS : SemF := fun args Q E => ∃ d, args = [.fz d] ∧ tyA d = true ∧ Q (.fz (.bl (bxB d))) []
def pointS : SemF := fun args Q E => ∃ d, args = [.fz d] ∧ tyA d = true ∧ Q (.fz (.bl (ptB d))) []
def refuseS (F : Nat → (Rz → List T → Prop) → Prop) : SemF := fun args Q E => ∃ bs : List Bool, args = [.fz (blsD bs)] ∧ (∀ n, ff bs = some n → F n E) ∧ (ff bs = none → Q (.fz .non) [])
theorem iB_some {d : D} {i : Int} (h : iB d = some i) : d = .int i := by
  cases d <;> first | (cases h; rfl) | cases h
theorem ki_none {d : D} (ht : tyD d = true) (h : iB d = none) : (∃ b, d = .bl b) ∨ kInt d = some false := by
  obtain ⟨n, hn⟩ := Option.isSome_iff_exists.mp ht
  cases d with
  | int i => cases h
  | bl b => exact .inl ⟨b, rfl⟩
  | nd k ds => cases k <;> cases hn <;> exact .inr rfl
  | _ => cases hn <;> exact .inr rfl
theorem kt_none {d : D} (ht : tyA d = true) (h : ∀ ds, d ≠ .nd .tup ds) : QV.kTup d = some false := by
  unfold tyA at ht
  rw [Bool.and_eq_true] at ht
  obtain ⟨n, hn⟩ := Option.isSome_iff_exists.mp ht.1
  cases d with
  | nd k ds =>
    cases k with
    | tup => exact absurd rfl (h ds)
    | _ => cases hn <;> rfl
  | _ => cases hn <;> rfl
theorem ff2 {a b : Bool} (h : ff [a, b] = none) : a = true ∧ b = true := by cases a <;> cases b <;> first | exact ⟨rfl, rfl⟩ | cases h
theorem bt_ex {d : D} {lo hi : Int} (h : btB d lo hi = true) : ∃ i : Int, (lo ≤ i ∧ i ≤ hi) ∧ d = .int i := by
  unfold btB at h
  cases e : iB d with
  | none => rw [e] at h; cases h
  | some i => rw [e] at h; exact ⟨i, by simpa using h, iB_some e⟩
theorem ax_ex {a l : D} (h : axB a l = true) : ∃ x y : Int, (0 ≤ x ∧ 1 ≤ y ∧ x + y ≤ 1000000) ∧ a = .int x ∧ l = .int y := by
  unfold axB at h
  cases e : iB a with
  | none => rw [e] at h; cases h
  | some i =>
    cases e2 : iB l with
    | none => rw [e, e2] at h; cases h
    | some j => rw [e, e2] at h; exact ⟨i, j, by simpa using h, iB_some e, iB_some e2⟩
theorem bx_ex {d : D} (h : bxB d = true) : ∃ b : Bx, b.ok ∧ d = bxD b := by
  unfold bxB at h
  split at h
  · rw [Bool.and_eq_true, Bool.and_eq_true] at h
    obtain ⟨x, l, h1, rfl, rfl⟩ := ax_ex h.1
    obtain ⟨y, w, h2, rfl, rfl⟩ := ax_ex h.2.1
    obtain ⟨z, k, h3, rfl, rfl⟩ := ax_ex h.2.2
    exact ⟨⟨x, y, z, l, w, k⟩, ⟨h1, h2, h3⟩, rfl⟩
  · cases h
theorem pt_ex {d : D} (h : ptB d = true) : ∃ p q r : Int, d = pt3 p q r := by
  unfold ptB at h
  split at h
  · rw [Bool.and_eq_true, Bool.and_eq_true] at h
    obtain ⟨p, _, rfl⟩ := bt_ex h.1
    obtain ⟨q, _, rfl⟩ := bt_ex h.2.1
    obtain ⟨r, _, rfl⟩ := bt_ex h.2.2
    exact ⟨p, q, r, rfl⟩
  · cases h
theorem ax_no {a l : D} (h : (!btB a 0 1000000 || !btB l 1 1000000) = true) : axB a l = false := by
  cases e : axB a l with
  | false => rfl
  | true =>
    obtain ⟨x, y, h1, rfl, rfl⟩ := ax_ex e
    have : ¬ ((0 ≤ x ∧ x ≤ 1000000) ∧ (1 ≤ y ∧ y ≤ 1000000)) := fun z => by simp [btB, iB, z.1, z.2] at h
    omega
theorem bx_no {a b c l w k : D} (h : axB a l = false ∨ axB b w = false ∨ axB c k = false) : bxB (.nd .tup [a, b, c, l, w, k]) = false := by
  simp only [bxB]
  rcases h with h | h | h <;> rw [h] <;> simp
def hasS (F : Nat → (Rz → List T → Prop) → Prop) : SemF := fun args Q E => ∃ d e, args = [.fz d, .fz e] ∧ tyA d = true ∧ tyA e = true ∧ (∀ n, ff [bxB d, ptB e] = some n → F n E) ∧ ∀ (b : Bx) p q r, b.ok → ptB e = true → d = bxD b → e = pt3 p q r → Q (.fz (.bl (b.has p q r))) []
def Bx.sz (b : Bx) (a : Int) : Int := if a = 0 then b.l else if a = 1 then b.w else b.h
def pos (c : Int × Bx) : Bool := decide (0 < c.2.l ∧ 0 < c.2.w ∧ 0 < c.2.h)
def bN (b : Bool) : Nat := if b then 1 else 0

structure Bed where (h : Int) (g : Str) (w : Int) (xs ys : List Int)
abbrev bedD (b : Bed) : D := .nd .tup [.int b.h, .str b.g, .int b.w, intsD b.xs, intsD b.ys]
abbrev bedsD (B : List Bed) : D := .nd .lst (B.map bedD)
def riseOk (xs : List Int) (e : Int) : Prop := xs.Pairwise (· < ·) ∧ (∀ x, x ∈ xs → 0 < x ∧ x < e) ∧ xs.length ≤ 23
def bedOk (L W : Int) (b : Bed) : Prop := M6 b.h ∧ gLet b.g ∧ (1 ≤ b.w ∧ b.w ≤ 1000) ∧ riseOk b.xs L ∧ riseOk b.ys W
def topF (B : List Bed) : Int := (B.map (·.h)).sum
def manyF (B : List Bed) : Int := (B.map fun b => ((b.xs.length : Int) + 1) * ((b.ys.length : Int) + 1)).sum
def benchOk (L W : Int) (B : List Bed) : Prop := M6 L ∧ M6 W ∧ (1 ≤ B.length ∧ B.length ≤ 6) ∧ (∀ b, b ∈ B → bedOk L W b) ∧ topF B ≤ 1000000 ∧ manyF B ≤ 24
def edF (xs : List Int) (e : Int) : List Int := [0] ++ xs ++ [e]
def stF (xs : List Int) (e : Int) : List (Int × Int) := (List.range (xs.length + 1)).map fun k => ((edF xs e).getD k 0, (edF xs e).getD (k + 1) 0 - (edF xs e).getD k 0)
abbrev prD (p : Int × Int) : D := .nd .tup [.int p.1, .int p.2]
structure Pc where (x y z a b c : Int) (g : Str) (w : Int)
abbrev ppD (p : Pc) : D := .nd .tup [.nd .tup [.int p.x, .int p.y, .int p.z, .int p.a, .int p.b, .int p.c], .str p.g, .int p.w]
def pcF (L W : Int) (b : Bed) (z : Int) : List Pc := (stF b.xs L).flatMap fun p => (stF b.ys W).map fun q => ⟨p.1, q.1, z, p.2, q.2, b.h, b.g, b.w⟩
def pcsF (L W : Int) : List Bed → Int → List Pc
  | [], _ => []
  | b :: B, z => pcF L W b z ++ pcsF L W B (z + b.h)
abbrev benK : List Str := ["long_and_wide", "kept_beds", "top", "kept_pieces"]
def benV (L W : Int) (B : List Bed) : List D := [.nd .tup [.int L, .int W], bedsD B, .int (topF B), .nd .lst ((pcsF L W B 0).map ppD)]
abbrev benD (ca : Str → Addr) (L W : Int) (B : List Bed) : D := .nd (.ins (ca "Bench") benK) (benV L W B)
def stretchS : SemF := fun args Q E => ∃ (xs : List Int) (e : Int), args = [.fz (intsD xs), .fz (.int e)] ∧ xs.length ≤ 23 ∧ Q (.fz (.nd .lst ((stF xs e).map prD))) []
def likeS : SemF := fun args Q E => ∃ b : Bed, args = [.fz (bedD b)] ∧ Q (.fz (bedD b)) []
def piecesS : SemF := fun args Q E => ∃ (L W : Int) (b : Bed) (z : Int), args = [.fz (.int L), .fz (.int W), .fz (bedD b), .fz (.int z)] ∧ b.xs.length ≤ 23 ∧ b.ys.length ≤ 23 ∧ Q (.fz (.nd .lst ((pcF L W b z).map ppD))) []
def sizeS (ca : Str → Addr) : SemF := fun args Q E => ∃ (L W : Int) (B : List Bed), args = [.fz (benD ca L W B)] ∧ Q (.fz (.nd .tup [.int L, .int W, .int (topF B)])) []
def bedsS (ca : Str → Addr) : SemF := fun args Q E => ∃ (L W : Int) (B : List Bed), args = [.fz (benD ca L W B)] ∧ Q (.fz (bedsD B)) []
def manyS (ca : Str → Addr) : SemF := fun args Q E => ∃ (L W : Int) (B : List Bed), args = [.fz (benD ca L W B)] ∧ Q (.fz (.int ((pcsF L W B 0).length : Nat))) []
def risingS : SemF := fun args Q E => ∃ t, ∃ n e : Int, args = [t, .fz (.int n), .fz (.int e)] ∧ IsBag t ∧ 0 ≤ n ∧ n ≤ 23 ∧ M6 e ∧ ∀ (xs : List Int) t', riseOk xs e → (xs.length : Int) ≤ n → IsBag t' → Q (.fz (intsD xs)) [t']
def measS : SemF := fun args Q E => ∃ t, args = [t] ∧ IsBag t ∧ ∀ (v : Int) t', M6 v → IsBag t' → Q (.fz (.int v)) [t']
def lbedS : SemF := fun args Q E => ∃ (t : T) (gs : List Str) (h c L W : Int), args = [t, .fz (.nd .lst (gs.map .str)), .fz (.int h), .fz (.int c), .fz (.int L), .fz (.int W)] ∧ IsBag t ∧ (∀ g, g ∈ gs → gLet g) ∧ (1 ≤ gs.length ∧ gs.length ≤ 3) ∧ M6 h ∧ 1 ≤ c ∧ c ≤ 24 ∧ M6 L ∧ M6 W ∧
  ∀ (b : Bed) t', bedOk L W b → b.h = h → ((b.xs.length : Int) + 1) * ((b.ys.length : Int) + 1) ≤ c → IsBag t' → Q (.fz (bedD b)) [t']
def lbenchS : SemF := fun args Q E => ∃ t, args = [t] ∧ IsBag t ∧ ∀ (L W : Int) (B : List Bed) t', benchOk L W B → IsBag t' → Q (.fz (.nd .tup [.int L, .int W, bedsD B])) [t']
theorem top_snoc {B : List Bed} {j : Nat} {b : Bed} (h : B[j]? = some b) : topF (B.take (j + 1)) = topF (B.take j) + b.h := by
  unfold topF
  rw [List.take_succ, h, Option.toList_some, List.map_append, List.sum_append]; simp
theorem sum_nonneg : ∀ {l : List Int}, (∀ x, x ∈ l → 0 ≤ x) → 0 ≤ l.sum
  | [], _ => by simp
  | a :: l, h => by
    have := sum_nonneg (l := l) fun x hx => h x (by simp [hx])
    have := h a (by simp)
    rw [List.sum_cons]; omega
theorem top_le {B : List Bed} (h : ∀ b, b ∈ B → 1 ≤ b.h) (j : Nat) : topF (B.take j) ≤ topF B := by
  have e : topF B = topF (B.take j) + topF (B.drop j) := by
    unfold topF
    rw [← List.sum_append, ← List.map_append, List.take_append_drop]
  have : 0 ≤ topF (B.drop j) := sum_nonneg fun x hx => by
    obtain ⟨b, hb, rfl⟩ := List.mem_map.mp hx
    have := h b (List.mem_of_mem_drop hb); omega
  omega
theorem pcs_app {L W : Int} : ∀ {A B : List Bed} {z : Int}, pcsF L W (A ++ B) z = pcsF L W A z ++ pcsF L W B (z + topF A)
  | [], B, z => by simp [pcsF, topF]
  | a :: A, B, z => by
    have ih := pcs_app (L := L) (W := W) (A := A) (B := B) (z := z + a.h)
    rw [List.cons_append, pcsF, pcsF, ih, List.append_assoc]
    have : z + a.h + topF A = z + topF (a :: A) := by unfold topF; rw [List.map_cons, List.sum_cons]; omega
    rw [this]
theorem pcs_snoc {L W : Int} {B : List Bed} {j : Nat} {b : Bed} (h : B[j]? = some b) : pcsF L W (B.take (j + 1)) 0 = pcsF L W (B.take j) 0 ++ pcF L W b (topF (B.take j)) := by
  rw [List.take_succ, h, Option.toList_some, pcs_app]
  simp [pcsF]
theorem st_len {xs : List Int} {e : Int} : (stF xs e).length = xs.length + 1 := by unfold stF; simp
theorem pc_len {L W : Int} {b : Bed} {z : Int} : (pcF L W b z).length = (b.xs.length + 1) * (b.ys.length + 1) := by
  have : ∀ l : List (Int × Int), (l.flatMap fun p => (stF b.ys W).map fun q => (⟨p.1, q.1, z, p.2, q.2, b.h, b.g, b.w⟩ : Pc)).length = l.length * (b.ys.length + 1) := fun l => by
    induction l with
    | nil => simp
    | cons p l ih => rw [List.flatMap_cons, List.length_append, ih, List.length_map, st_len, List.length_cons, Nat.succ_mul]; omega
  unfold pcF
  rw [this, st_len]
theorem pcs_len {L W : Int} : ∀ {B : List Bed} {z : Int}, ((pcsF L W B z).length : Int) = manyF B
  | [], _ => by simp [pcsF, manyF]
  | b :: B, z => by
    have ih := pcs_len (L := L) (W := W) (B := B) (z := z + b.h)
    unfold manyF at ih ⊢
    rw [pcsF, List.length_append, pc_len, List.map_cons, List.sum_cons, ← ih]
    push_cast
    rfl
theorem fl_len {W z : Int} {b : Bed} : ∀ l : List (Int × Int), (l.flatMap fun p => (stF b.ys W).map fun q => (⟨p.1, q.1, z, p.2, q.2, b.h, b.g, b.w⟩ : Pc)).length = l.length * (b.ys.length + 1)
  | [] => by simp
  | p :: l => by rw [List.flatMap_cons, List.length_append, fl_len l, List.length_map, st_len, List.length_cons, Nat.succ_mul]; omega
theorem ed_map {xs : List Int} {e : Int} : (edF xs e).map D.int = [D.int 0] ++ xs.map D.int ++ [D.int e] := by unfold edF; simp
theorem ed_len {xs : List Int} {e : Int} : (edF xs e).length = xs.length + 2 := by unfold edF; simp
theorem ed_at {xs : List Int} {e : Int} {m : Nat} (h : m < xs.length + 2) : (([D.int 0] ++ xs.map D.int ++ [D.int e]) : List D)[m]? = some (.int ((edF xs e).getD m 0)) := by
  rw [← ed_map, List.getElem?_map, List.getD_eq_getElem?_getD, List.getElem?_eq_getElem (by rw [ed_len]; exact h)]; rfl
theorem many_pos {B : List Bed} (h : 1 ≤ B.length) : 1 ≤ manyF B := by
  cases B with
  | nil => simp at h
  | cons b B =>
    unfold manyF
    rw [List.map_cons, List.sum_cons]
    have h1 : 0 ≤ (B.map fun b => ((b.xs.length : Int) + 1) * ((b.ys.length : Int) + 1)).sum := sum_nonneg fun x hx => by
      obtain ⟨b, _, rfl⟩ := List.mem_map.mp hx
      exact Int.mul_nonneg (by omega) (by omega)
    have h2 : (1 : Int) * 1 ≤ ((b.xs.length : Int) + 1) * ((b.ys.length : Int) + 1) := Int.mul_le_mul (by omega) (by omega) (by omega) (by omega)
    omega

theorem many_nonneg {B : List Bed} : 0 ≤ manyF B := by
  unfold manyF
  refine sum_nonneg fun x hx => ?_
  obtain ⟨b, _, rfl⟩ := List.mem_map.mp hx
  exact Int.mul_nonneg (by omega) (by omega)
theorem top_app {B : List Bed} {b : Bed} : topF (B ++ [b]) = topF B + b.h := by unfold topF; rw [List.map_append, List.sum_append]; simp

theorem ed_lt {xs : List Int} {e : Int} (h : riseOk xs e) (he : 0 < e) : (edF xs e).Pairwise (· < ·) := by
  unfold edF
  rw [List.append_assoc, List.singleton_append, List.pairwise_cons]
  refine ⟨fun x hx => ?_, List.pairwise_append.mpr ⟨h.1, by simp, fun a ha b hb => ?_⟩⟩
  · rcases List.mem_append.mp hx with q | q
    · exact (h.2.1 x q).1
    · simp at q; omega
  · simp at hb; subst hb; exact (h.2.1 a ha).2
theorem ed_get_lt {xs : List Int} {e : Int} (h : riseOk xs e) (he : 0 < e) {i j : Nat} (hij : i < j) (hj : j < xs.length + 2) : (edF xs e).getD i 0 < (edF xs e).getD j 0 := by
  have := List.pairwise_iff_getElem.mp (ed_lt h he) i j (by rw [ed_len]; omega) (by rw [ed_len]; omega) hij
  rw [List.getD_eq_getElem?_getD, List.getD_eq_getElem?_getD, List.getElem?_eq_getElem (by rw [ed_len]; omega), List.getElem?_eq_getElem (by rw [ed_len]; omega)]
  exact this
theorem ed_get_le {xs : List Int} {e : Int} (h : riseOk xs e) (he : 0 < e) {i j : Nat} (hij : i ≤ j) (hj : j < xs.length + 2) : (edF xs e).getD i 0 ≤ (edF xs e).getD j 0 := by
  rcases Nat.lt_or_eq_of_le hij with q | q
  · exact Int.le_of_lt (ed_get_lt h he q hj)
  · rw [q]; exact Int.le_refl _
theorem ed_zero {xs : List Int} {e : Int} : (edF xs e).getD 0 0 = 0 := by unfold edF; simp
theorem ed_end {xs : List Int} {e : Int} : (edF xs e).getD (xs.length + 1) 0 = e := by unfold edF; simp
theorem st_rise {xs : List Int} {e : Int} (h : riseOk xs e) (he : 0 < e) : (stF xs e).Pairwise (fun p q => p.1 + p.2 ≤ q.1) ∧ ∀ p, p ∈ stF xs e → 0 ≤ p.1 ∧ 1 ≤ p.2 ∧ p.1 + p.2 ≤ e := by
  unfold stF
  refine ⟨List.pairwise_map.mpr ?_, fun p hp => ?_⟩
  · refine (List.pairwise_lt_range (n := xs.length + 1)).imp_of_mem fun {i j} hi hj hij => ?_
    have hj := List.mem_range.mp hj
    have := ed_get_le h he (show i + 1 ≤ j by omega) (by omega)
    show (edF xs e).getD i 0 + ((edF xs e).getD (i + 1) 0 - (edF xs e).getD i 0) ≤ (edF xs e).getD j 0
    omega
  · obtain ⟨k, hk, rfl⟩ := List.mem_map.mp hp
    have hk := List.mem_range.mp hk
    have a := ed_get_le h he (Nat.zero_le k) (by omega)
    have b := ed_get_lt h he (show k < k + 1 by omega) (by omega)
    have c := ed_get_le h he (show k + 1 ≤ xs.length + 1 by omega) (by omega)
    rw [ed_zero] at a
    rw [ed_end] at c
    show 0 ≤ (edF xs e).getD k 0 ∧ 1 ≤ (edF xs e).getD (k + 1) 0 - (edF xs e).getD k 0 ∧ (edF xs e).getD k 0 + ((edF xs e).getD (k + 1) 0 - (edF xs e).getD k 0) ≤ e
    omega
theorem mem_pc {L W z : Int} {b : Bed} {p : Pc} (h : p ∈ pcF L W b z) : ∃ s t : Int × Int, s ∈ stF b.xs L ∧ t ∈ stF b.ys W ∧ p = ⟨s.1, t.1, z, s.2, t.2, b.h, b.g, b.w⟩ := by
  obtain ⟨s, hs, h⟩ := List.mem_flatMap.mp h
  obtain ⟨t, ht, rfl⟩ := List.mem_map.mp h
  exact ⟨s, t, hs, ht, rfl⟩
structure pcIn (L W z t : Int) (p : Pc) : Prop where
  x : 0 ≤ p.x ∧ 1 ≤ p.a ∧ p.x + p.a ≤ L
  y : 0 ≤ p.y ∧ 1 ≤ p.b ∧ p.y + p.b ≤ W
  z : z ≤ p.z ∧ 1 ≤ p.c ∧ p.z + p.c ≤ t
theorem pc_in {L W z : Int} {b : Bed} (hb : bedOk L W b) (hL : 0 < L) (hW : 0 < W) {p : Pc} (h : p ∈ pcF L W b z) : pcIn L W z (z + b.h) p := by
  obtain ⟨s, t, hs, ht, rfl⟩ := mem_pc h
  obtain ⟨h1, _, _, h4, h5⟩ := hb
  exact ⟨(st_rise h4 hL).2 s hs, (st_rise h5 hW).2 t ht, Int.le_refl _, h1.1, Int.le_refl _⟩
theorem top_nonneg {B : List Bed} (h : ∀ b, b ∈ B → 1 ≤ b.h) : 0 ≤ topF B := by
  have := top_le h 0
  simpa [topF] using this
theorem pcs_in {L W : Int} (hL : 0 < L) (hW : 0 < W) : ∀ {B : List Bed} {z : Int}, (∀ b, b ∈ B → bedOk L W b) → ∀ p, p ∈ pcsF L W B z → pcIn L W z (z + topF B) p
  | [], _, _, p, hp => by simp [pcsF] at hp
  | b :: B, z, h, p, hp => by
    have e : topF (b :: B) = b.h + topF B := by unfold topF; rw [List.map_cons, List.sum_cons]
    have h1 := (h b (by simp)).1.1
    have h0 := top_nonneg (B := B) fun c hc => (h c (List.mem_cons_of_mem _ hc)).1.1
    rw [pcsF] at hp
    rcases List.mem_append.mp hp with q | q
    · obtain ⟨a, c, d⟩ := pc_in (h b (by simp)) hL hW q
      exact ⟨a, c, by omega⟩
    · obtain ⟨a, c, d⟩ := pcs_in hL hW (fun c hc => h c (List.mem_cons_of_mem _ hc)) p q
      exact ⟨a, c, by omega⟩
def inB (x l p : Int) : Bool := decide (x ≤ p) && decide (p < x + l)
theorem sml_ints {n m : Nat} {xs : List Int} (h : ∀ x, x ∈ xs → 0 ≤ x ∧ x ≤ 1000000) (hl : xs.length ≤ m) : sml (m * 141) (n + 1) (intsD xs) := sml_lst (fun x hx => sml_int (by have := h x hx; omega)) hl
theorem sml_pc {n : Nat} {L W z t : Int} {p : Pc} (h : pcIn L W z t p) (hL : L ≤ 1000000) (hW : W ≤ 1000000) (h0 : 0 ≤ z) (ht : t ≤ 1000000) (hg : gLet p.g) (hw : 1 ≤ p.w ∧ p.w ≤ 1000) : sml 1000 (n + 2) (ppD p) := by
  obtain ⟨a, b, c⟩ := h
  refine sml_mono (sml_tup (.cons (sml_tup (.cons (sml_int ?_) (.cons (sml_int ?_) (.cons (sml_int ?_) (.cons (sml_int ?_) (.cons (sml_int ?_) (.cons (sml_int ?_) .nil))))))) (.cons (sml_let hg) (.cons (sml_int ?_) .nil)))) (by decide) <;> omega
theorem pcs_gw {L W : Int} : ∀ {B : List Bed} {z : Int} {p : Pc}, p ∈ pcsF L W B z → ∃ b, b ∈ B ∧ p.g = b.g ∧ p.w = b.w
  | [], _, _, h => by simp [pcsF] at h
  | b :: B, z, p, h => by
    rw [pcsF] at h
    rcases List.mem_append.mp h with q | q
    · obtain ⟨s, t, _, _, rfl⟩ := mem_pc q
      exact ⟨b, by simp, rfl, rfl⟩
    · obtain ⟨c, hc, e⟩ := pcs_gw q
      exact ⟨c, List.mem_cons_of_mem _ hc, e⟩
theorem sml_piece {n : Nat} {L W : Int} {B : List Bed} {p : Pc} (h : benchOk L W B) (hp : p ∈ pcsF L W B 0) : sml 1000 (n + 2) (ppD p) := by
  have hi := pcs_in (by have := h.1.1; omega) (by have := h.2.1.1; omega) h.2.2.2.1 p hp
  obtain ⟨b, hb, eg, ew⟩ := pcs_gw hp
  have ho := h.2.2.2.1 b hb
  exact sml_pc hi h.1.2 h.2.1.2 (Int.le_refl _) (by have := h.2.2.2.2.1; omega) (by rw [eg]; exact ho.2.1) (by rw [ew]; exact ho.2.2.1)

def copyX : SemF := fun args Q E => ∃ B : List Bed, args = [.fz (bedsD B)] ∧ B.length ≤ 6 ∧ Q (.ow .lst (B.map bedD)) []
def takeX : SemF := fun args Q E => ∃ t n, args = [t, .fz (.int n)] ∧ IsBag t ∧ 0 < n ∧ n < 10000000000000000000000 ∧ ∀ v t', 0 ≤ v → v < n → IsBag t' → Q (.fz (.int v)) [t']
structure gd (n k : Nat) (d : D) : Prop where
  pt : d.pt n = true
  sh : shrt d = true
  sz : szD d ≤ k
theorem gd_pts {n : Nat} : ∀ {ds : List D}, Dpts n ds = true → ∀ d, d ∈ ds → d.pt n = true
  | [], _, d, h => by simp at h
  | e :: ds, hp, d, h => by
    simp only [Dpts, Bool.and_eq_true] at hp
    rcases List.mem_cons.mp h with rfl | z
    · exact hp.1
    · exact gd_pts hp.2 d z
theorem gd_shs : ∀ {ds : List D}, shrts ds = true → ∀ d, d ∈ ds → shrt d = true
  | [], _, d, h => by simp at h
  | e :: ds, hp, d, h => by
    simp only [shrts, Bool.and_eq_true] at hp
    rcases List.mem_cons.mp h with rfl | z
    · exact hp.1
    · exact gd_shs hp.2 d z
theorem gd_szs : ∀ {ds : List D} {k : Nat}, szDs ds ≤ k → ∀ d, d ∈ ds → szD d ≤ k
  | [], _, _, d, h => by simp at h
  | e :: ds, k, hp, d, h => by
    simp only [szDs] at hp
    rcases List.mem_cons.mp h with rfl | z
    · omega
    · exact gd_szs (show szDs ds ≤ k by omega) d z
theorem gd.lst {n k : Nat} {ds : List D} (h : gd (n + 1) k (.nd .lst ds)) : ∀ d, d ∈ ds → gd n k d := fun d hd =>
  ⟨gd_pts (by have := h.pt; rwa [D.pt] at this) d hd, gd_shs (by have := h.sh; rwa [shrt] at this) d hd, gd_szs (by have := h.sz; rwa [szD] at this) d hd⟩
theorem gd.tup {n k : Nat} {ds : List D} (h : gd (n + 1) k (.nd .tup ds)) : ∀ d, d ∈ ds → gd n k d := fun d hd =>
  ⟨gd_pts (by have := h.pt; rwa [D.pt] at this) d hd, gd_shs (by have := h.sh; rwa [shrt] at this) d hd, gd_szs (by have := h.sz; rwa [szD] at this) d hd⟩
theorem gd.ty {n k : Nat} {d : D} (h : gd n k d) : tyD d = true := by
  have hp := h.pt
  cases d with
  | nd kd ds => cases kd <;> first | rfl | (cases n <;> simp [D.pt] at hp)
  | scr ns => cases n <;> simp [D.pt] at hp
  | exc a C dd ks ds => cases n <;> simp [D.pt] at hp
  | _ => rfl
theorem gd.tya {n k : Nat} {d : D} (h : gd n k d) : tyA d = true := by
  have ht := h.ty
  unfold tyA
  rw [ht, Bool.true_and]
  split
  · rename_i ds
    cases n with
    | zero => have := h.pt; simp [D.pt] at this
    | succ n => exact List.all_eq_true.mpr fun x hx => (h.tup x hx).ty
  · rfl
theorem gd_int {n : Nat} {i : Int} (h : i.natAbs < 10000000000000000000000000000000000000000) : gd n 140 (.int i) := ⟨by cases n <;> rfl, decide_eq_true h, Nat.le_refl _⟩
theorem gd.mono {n k m : Nat} {d : D} (h : gd n k d) (l : k ≤ m) : gd n m d := ⟨h.pt, h.sh, Nat.le_trans h.sz l⟩
theorem gd_lst {n k m : Nat} {ds : List D} (h : ∀ d, d ∈ ds → gd n k d) (hl : ds.length ≤ m) : gd (n + 1) (m * (k + 1)) (.nd .lst ds) :=
  ⟨pt_lst fun d hd => (h d hd).pt, shrts_all fun d hd => (h d hd).sh, Nat.le_trans (szDs_le fun d hd => (h d hd).sz) (Nat.mul_le_mul hl (Nat.le_refl _))⟩
theorem gd_tup {n k m : Nat} {ds : List D} (h : ∀ d, d ∈ ds → gd n k d) (hl : ds.length ≤ m) : gd (n + 1) (m * (k + 1)) (.nd .tup ds) :=
  ⟨pt_tup fun d hd => (h d hd).pt, shrts_all fun d hd => (h d hd).sh, Nat.le_trans (szDs_le fun d hd => (h d hd).sz) (Nat.mul_le_mul hl (Nat.le_refl _))⟩
mutual
theorem pt_mono : ∀ {n m : Nat} (d : D), d.pt n = true → n ≤ m → d.pt m = true
  | n, m, .non, _, _ => by simp [D.pt]
  | n, m, .bl _, _, _ => by simp [D.pt]
  | n, m, .int _, _, _ => by simp [D.pt]
  | n, m, .str x, h, _ => by simp [D.pt]
  | 0, m, .nd .lst ds, h, _ => by simp [D.pt] at h
  | 0, m, .nd .tup ds, h, _ => by simp [D.pt] at h
  | 0, m, .nd (.dK []) [], h, _ => by simp [D.pt] at h
  | 0, m, .nd (.dK []) (_ :: _), h, _ => by simp [D.pt] at h
  | 0, m, .nd (.dK (_ :: _)) ds, h, _ => by simp [D.pt] at h
  | 0, m, .nd (.dT _) ds, h, _ => by simp [D.pt] at h
  | 0, m, .nd (.lkT _ _) ds, h, _ => by simp [D.pt] at h
  | 0, m, .nd (.lsA _) ds, h, _ => by simp [D.pt] at h
  | 0, m, .nd (.ins _ _) ds, h, _ => by simp [D.pt] at h
  | n + 1, 0, .nd k ds, _, h => by omega
  | n + 1, m + 1, .nd .lst ds, h, hl => by
    rw [D.pt] at h ⊢
    exact pts_mono ds h (by omega)
  | n + 1, m + 1, .nd .tup ds, h, hl => by
    rw [D.pt] at h ⊢
    exact pts_mono ds h (by omega)
  | n + 1, m + 1, .nd (.dK []) [], h, _ => by simp [D.pt]
  | n + 1, m + 1, .nd (.dK []) (_ :: _), h, _ => by simp [D.pt] at h
  | n + 1, m + 1, .nd (.dK (_ :: _)) ds, h, _ => by simp [D.pt] at h
  | n + 1, m + 1, .nd (.dT _) ds, h, _ => by simp [D.pt] at h
  | n + 1, m + 1, .nd (.lkT _ _) ds, h, _ => by simp [D.pt] at h
  | n + 1, m + 1, .nd (.lsA _) ds, h, _ => by simp [D.pt] at h
  | n + 1, m + 1, .nd (.ins _ _) ds, h, _ => by simp [D.pt] at h
  | n, m, .scr _, h, _ => by cases n <;> simp [D.pt] at h
  | n, m, .exc _ _ _ _ _, h, _ => by cases n <;> simp [D.pt] at h
theorem pts_mono : ∀ {n m : Nat} (ds : List D), Dpts n ds = true → n ≤ m → Dpts m ds = true
  | n, m, [], _, _ => by simp [Dpts]
  | n, m, d :: ds, h, hl => by
    have h' : d.pt n = true ∧ Dpts n ds = true := by simpa [Dpts] using h
    simp only [Dpts, Bool.and_eq_true]
    exact ⟨pt_mono d h'.1 hl, pts_mono ds h'.2 hl⟩
end
theorem gd.up {n m k : Nat} {d : D} (h : gd n k d) (l : n ≤ m) : gd m k d := ⟨pt_mono d h.pt l, h.sh, h.sz⟩
def smB (x : Str) : Bool := (x.cps.toList.all fun c => decide (c ∈ abcL)) && (decide ((1 : Int) ≤ x.length) && decide ((x.length : Int) ≤ 8))
def grB : D → Bool | .str x => smB x | _ => false
def jnB : D → Bool | .nd .lst ds => decide ((ds.length : Int) ≤ 23) && ds.all fun d => btB d 0 1000000 | _ => false
def bedB : D → Bool | .nd .tup [h, g, w, x, y] => btB h 1 1000000 && (grB g && (btB w 1 1000 && (jnB x && jnB y))) | _ => false
def bedsB : D → Bool | .nd .lst ds => (decide ((1 : Int) ≤ ds.length) && decide ((ds.length : Int) ≤ 6)) && ds.all bedB | _ => false
def spots (xs : List Int) : Prop := xs.length ≤ 23 ∧ ∀ x, x ∈ xs → 0 ≤ x ∧ x ≤ 1000000
def wbed (b : Bed) : Prop := M6 b.h ∧ gLet b.g ∧ (1 ≤ b.w ∧ b.w ≤ 1000) ∧ spots b.xs ∧ spots b.ys
def weak (L W : Int) (B : List Bed) : Prop := M6 L ∧ M6 W ∧ (1 ≤ B.length ∧ B.length ≤ 6) ∧ ∀ b, b ∈ B → wbed b
theorem smB_let {x : Str} : smB x = true ↔ gLet x := by
  unfold smB gLet
  simp only [Bool.and_eq_true, List.all_eq_true, decide_eq_true_eq]
  constructor
  · rintro ⟨h1, h2, h3⟩; exact ⟨by omega, by omega, h1⟩
  · rintro ⟨h1, h2, h3⟩; exact ⟨h3, by omega, by omega⟩
theorem btI {i a b : Int} : btB (.int i) a b = true ↔ a ≤ i ∧ i ≤ b := by simp [btB, iB]
theorem jn_ints {xs : List Int} (h : spots xs) : jnB (intsD xs) = true := by
  simp only [jnB, List.length_map, Bool.and_eq_true, decide_eq_true_eq, List.all_map, List.all_eq_true, Function.comp]
  exact ⟨by have := h.1; omega, fun x hx => btI.mpr (h.2 x hx)⟩
theorem ints_bt {lo hi : Int} : ∀ {ds : List D}, (ds.all fun d => btB d lo hi) = true → ∃ xs : List Int, ds = xs.map .int ∧ ∀ x, x ∈ xs → lo ≤ x ∧ x ≤ hi
  | [], _ => ⟨[], rfl, by simp⟩
  | d :: ds, h => by
    rw [List.all_cons, Bool.and_eq_true] at h
    obtain ⟨i, hi, rfl⟩ := bt_ex h.1
    obtain ⟨xs, rfl, hx⟩ := ints_bt h.2
    exact ⟨i :: xs, rfl, fun x hm => by rcases List.mem_cons.mp hm with rfl | z; exact hi; exact hx x z⟩
theorem bed_ok {b : Bed} (h : wbed b) : bedB (bedD b) = true := by
  obtain ⟨h1, h2, h3, h4, h5⟩ := h
  simp only [bedB, btI.mpr h1, btI.mpr h3, jn_ints h4, jn_ints h5, grB, smB_let.mpr h2, Bool.and_self]
theorem beds_ok {B : List Bed} (h : (1 ≤ B.length ∧ B.length ≤ 6) ∧ ∀ b, b ∈ B → wbed b) : bedsB (bedsD B) = true := by
  simp only [bedsB, List.length_map, Bool.and_eq_true, decide_eq_true_eq, List.all_map, List.all_eq_true, Function.comp]
  exact ⟨by omega, fun b hb => bed_ok (h.2 b hb)⟩
def stB (e : Int) : Int → List Int → Bool
  | _, [] => true
  | l, j :: js => (decide (l < j) && decide (j < e)) && stB e j js
theorem stB_iff {e : Int} : ∀ {xs : List Int} {l : Int}, stB e l xs = true ↔ xs.Pairwise (· < ·) ∧ ∀ x, x ∈ xs → l < x ∧ x < e
  | [], l => by simp [stB]
  | j :: js, l => by
    simp only [stB, Bool.and_eq_true, decide_eq_true_eq, stB_iff (xs := js) (l := j), List.pairwise_cons, List.mem_cons]
    constructor
    · rintro ⟨⟨h1, h2⟩, h3, h4⟩
      exact ⟨⟨fun x hx => (h4 x hx).1, h3⟩, fun x hx => by rcases hx with rfl | hx; exact ⟨h1, h2⟩; have := h4 x hx; omega⟩
    · rintro ⟨⟨h1, h2⟩, h3⟩
      exact ⟨h3 j (.inl rfl), h2, fun x hx => ⟨h1 x hx, (h3 x (.inr hx)).2⟩⟩
theorem st_rise' {e : Int} {xs : List Int} (h : spots xs) (hs : stB e 0 xs = true) : riseOk xs e := by
  obtain ⟨a, b⟩ := stB_iff.mp hs
  exact ⟨a, b, h.1⟩
def chk : List Int → Bool
  | a :: b :: r => decide (a < b) && chk (b :: r)
  | _ => true
theorem chk_st {e : Int} : ∀ {xs : List Int} {l : Int}, chk (l :: xs ++ [e]) = (decide (l < e) && stB e l xs)
  | [], l => by simp [chk, stB]
  | j :: js, l => by
    show (decide (l < j) && chk (j :: js ++ [e])) = _
    rw [chk_st (xs := js) (l := j)]
    simp only [stB]
    rw [Bool.eq_iff_iff]
    simp only [Bool.and_eq_true, decide_eq_true_eq]
    constructor
    · rintro ⟨h1, h2, h3⟩; exact ⟨by omega, ⟨h1, h2⟩, h3⟩
    · rintro ⟨h1, ⟨h2, h3⟩, h4⟩; exact ⟨h2, h3, h4⟩
theorem chk_any : ∀ {l : List Int}, ((List.range (l.length - 1)).any fun k => decide (l.getD k 0 ≥ l.getD (k + 1) 0)) = !chk l
  | [] => rfl
  | [a] => rfl
  | a :: b :: r => by
    have ih := chk_any (l := b :: r)
    have e : (a :: b :: r).length - 1 = (b :: r).length - 1 + 1 := by simp
    rw [e, List.range_succ_eq_map, List.any_cons, List.any_map]
    have e2 : ((fun k => decide ((a :: b :: r).getD k 0 ≥ (a :: b :: r).getD (k + 1) 0)) ∘ Nat.succ) = fun k => decide ((b :: r).getD k 0 ≥ (b :: r).getD (k + 1) 0) := by
      funext k; simp
    rw [e2, ih]
    simp only [chk, List.getD_cons_zero, List.getD_cons_succ]
    rw [Bool.not_and]
    congr 1
    rw [Bool.eq_iff_iff]; simp
inductive Du where | bed (n : Nat) | many | told
def badAt (L W : Int) (B : List Bed) (k : Nat) : Bool := match B[k]? with
  | some b => !stB L 0 b.xs || (!stB W 0 b.ys || decide (1000000 < topF (B.take (k + 1))))
  | none => false
def duF (L W : Int) (B : List Bed) : Du := match (List.range B.length).find? (badAt L W B) with
  | some k => .bed k
  | none => if 24 < manyF B then .many else .told
def wD (n : Int) : D := .nd .tup [.str "wrong", .int n]
def pieceD (n : Int) : D := .nd .tup [.str "piece", .int n]
def resD' : Du → D
  | .bed n => .nd .tup [.str "bed", .int (n : Nat)]
  | .many => .nd .tup [.str "many", .int 24]
  | .told => .nd .tup [.str "told"]
theorem find_first {p : Nat → Bool} {n j : Nat} (h : ∀ i, i < j → p i = false) (hj : p j = true) (hn : j < n) : (List.range n).find? p = some j := by
  rw [List.find?_range_eq_some]
  exact ⟨hj, List.mem_range.mpr hn, fun i hi => by simp [h i hi]⟩
theorem find_none {p : Nat → Bool} {n : Nat} (h : ∀ i, i < n → p i = false) : (List.range n).find? p = none := by
  rw [List.find?_eq_none]
  intro i hi
  simp [h i (List.mem_range.mp hi)]
theorem told_ok {L W : Int} {B : List Bed} (h : weak L W B) (hb : ∀ i, i < B.length → badAt L W B i = false) (hm : manyF B ≤ 24) : benchOk L W B := by
  obtain ⟨h1, h2, h3, h4⟩ := h
  have key : ∀ (i : Nat) (b : Bed), B[i]? = some b → stB L 0 b.xs = true ∧ stB W 0 b.ys = true ∧ topF (B.take (i + 1)) ≤ 1000000 := fun i b hi => by
    have := hb i (List.getElem?_eq_some_iff.mp hi).1
    unfold badAt at this
    rw [hi] at this
    simp only [Bool.or_eq_false_iff, Bool.not_eq_false', decide_eq_false_iff_not] at this
    exact ⟨this.1, this.2.1, by omega⟩
  refine ⟨h1, h2, h3, fun b hb => ?_, ?_, hm⟩
  · obtain ⟨i, hi⟩ := List.getElem?_of_mem hb
    obtain ⟨k1, k2, _⟩ := key i b hi
    obtain ⟨w1, w2, w3, w4, w5⟩ := h4 b hb
    exact ⟨w1, w2, w3, st_rise' w4 k1, st_rise' w5 k2⟩
  · have hl : B[B.length - 1]? = some B[B.length - 1] := List.getElem?_eq_getElem (by omega)
    have := (key _ _ hl).2.2
    rw [show B.length - 1 + 1 = B.length by omega, List.take_length] at this
    exact this
theorem ok_weak {L W : Int} {B : List Bed} (h : benchOk L W B) : weak L W B := ⟨h.1, h.2.1, h.2.2.1, fun b hb => by
  obtain ⟨h1, h2, h3, h4, h5⟩ := h.2.2.2.1 b hb
  have hL := h.1.2
  have hW := h.2.1.2
  exact ⟨h1, h2, h3, ⟨h4.2.2, fun x hx => by have := h4.2.1 x hx; omega⟩, ⟨h5.2.2, fun x hx => by have := h5.2.1 x hx; omega⟩⟩⟩
theorem ok_told {L W : Int} {B : List Bed} (h : benchOk L W B) : duF L W B = .told := by
  unfold duF
  rw [find_none fun i hi => ?_]
  · show (if 24 < manyF B then Du.many else Du.told) = _
    rw [if_neg (by have := h.2.2.2.2.2; omega)]
  · unfold badAt
    rw [List.getElem?_eq_getElem hi]
    obtain ⟨_, _, _, h4, h5⟩ := h.2.2.2.1 _ (List.getElem_mem hi)
    have ht := top_le (B := B) (fun b hb => (h.2.2.2.1 b hb).1.1) (i + 1)
    have := h.2.2.2.2.1
    simp only [Bool.or_eq_false_iff, Bool.not_eq_false', decide_eq_false_iff_not]
    exact ⟨stB_iff.mpr ⟨h4.1, h4.2.1⟩, stB_iff.mpr ⟨h5.1, h5.2.1⟩, by omega⟩
def grainX : SemF := fun args Q E => ∃ d, args = [.fz d] ∧ tyD d = true ∧ (∀ x, d = .str x → x.length ≤ sizeLine) ∧ Q (.fz (.bl (grB d))) []
def jointsX : SemF := fun args Q E => ∃ d n k, args = [.fz d] ∧ gd n k d ∧ k ≤ 262144 ∧ Q (.fz (.bl (jnB d))) []
def bedX : SemF := fun args Q E => ∃ d n k, args = [.fz d] ∧ gd n k d ∧ k ≤ 262144 ∧ Q (.fz (.bl (bedB d))) []
def bedsX : SemF := fun args Q E => ∃ d n k, args = [.fz d] ∧ gd n k d ∧ k ≤ 262144 ∧ Q (.fz (.bl (bedsB d))) []
def standX : SemF := fun args Q E => ∃ (xs : List Int) (e : Int), args = [.fz (intsD xs), .fz (.int e)] ∧ Q (.fz (.bl (stB e 0 xs))) []
def gds (dl dw db : D) : Prop := (∃ n k, gd n k dl ∧ k ≤ 262144) ∧ (∃ n k, gd n k dw ∧ k ≤ 262144) ∧ ∃ n k, gd n k db ∧ k ≤ 262144
def rgts (dl dw db : D) : List Bool := [btB dl 1 1000000, btB dw 1 1000000, bedsB db]
def initX (ca : Str → Addr) : SemF := fun args Q E => ∃ dl dw db : D, args = [.ow (.ins (ca "Bench") []) [], .fz dl, .fz dw, .fz db] ∧ gds dl dw db ∧
  ((∃ n, ff (rgts dl dw db) = some n ∧ ∀ o, E ⟨ca "Wrong", ["at"], [.int (n : Nat)]⟩ [o]) ∨ (∃ (L W : Int) (B : List Bed), dl = .int L ∧ dw = .int W ∧ db = bedsD B ∧ weak L W B ∧
    (∀ k, duF L W B = .bed k → ∀ o, E ⟨ca "NoBed", ["at"], [.int (k : Nat)]⟩ [o]) ∧ (duF L W B = .many → ∀ o, E ⟨ca "TooMany", ["most"], [.int 24]⟩ [o]) ∧
    (duF L W B = .told → benchOk L W B → Q (.fz .non) [.ow (.ins (ca "Bench") benK) (benV L W B)])))
def pcIx (L W : Int) (B : List Bed) (d : D) (Wr : Prop) (No : Int → Prop) (R : Pc → Prop) : Prop :=
  (whB d = false ∧ Wr) ∨ ∃ i : Int, d = .int i ∧ (((i < 1 ∨ ((pcsF L W B 0).length : Int) < i) ∧ No i) ∨ ∃ (n : Nat) (p : Pc), i = ((n + 1 : Nat) : Int) ∧ (pcsF L W B 0)[n]? = some p ∧ R p)
def pcX (ca : Str → Addr) (f : Pc → D) : SemF := fun args Q E => ∃ (L W : Int) (B : List Bed) (d : D), args = [.fz (benD ca L W B), .fz d] ∧ tyD d = true ∧ pcIx L W B d (E ⟨ca "Wrong", ["at"], [.int 0]⟩ []) (fun i => E ⟨ca "NoPiece", ["piece"], [.int i]⟩ []) fun p => Q (.fz (f p)) []
def boxF (p : Pc) : D := .nd .tup [.int p.x, .int p.y, .int p.z, .int p.a, .int p.b, .int p.c]
def keptX (ca : Str → Addr) : SemF := pcX ca ppD
def bboxX (ca : Str → Addr) : SemF := pcX ca boxF
def grnX (ca : Str → Addr) : SemF := pcX ca fun p => .str p.g
def hvyX (ca : Str → Addr) : SemF := pcX ca fun p => .int p.w
def pieceAtX (ca : Str → Addr) : SemF := fun args Q E => ∃ (L W : Int) (B : List Bed) (d : D), args = [.fz (benD ca L W B), .fz d] ∧ benchOk L W B ∧ tyA d = true ∧ ((ptB d = false ∧ E ⟨ca "Wrong", ["at"], [.int 0]⟩ []) ∨ (ptB d = true ∧ ∀ r, Q (.fz r) []))
def lsortX (ca : Str → Addr) : SemX := fun ds Q => ∃ a d, d.isSome = true ∧ ((∃ n : Int, ds = [.exc a (ca "Wrong") d ["at"] [.int n]] ∧ Q (wD n)) ∨ (∃ n : Nat, ds = [.exc a (ca "NoBed") d ["at"] [.int (n : Nat)]] ∧ Q (resD' (.bed n))) ∨ (ds = [.exc a (ca "TooMany") d ["most"] [.int 24]] ∧ Q (resD' .many)) ∨ (∃ n : Int, ds = [.exc a (ca "NoPiece") d ["piece"] [.int n]] ∧ Q (pieceD n)))
def lmadeX : SemF := fun args Q E => ∃ dl dw db : D, args = [.fz dl, .fz dw, .fz db] ∧ gds dl dw db ∧ ((∃ n, ff (rgts dl dw db) = some n ∧ Q (.fz (wD (n : Nat))) []) ∨ (∃ (L W : Int) (B : List Bed), dl = .int L ∧ dw = .int W ∧ db = bedsD B ∧ weak L W B ∧ Q (.fz (resD' (duF L W B))) []))
def askedX (ca : Str → Addr) : SemF := fun args Q E => ∃ (L W : Int) (B : List Bed) (w : Str) (d : D), args = [.fz (benD ca L W B), .fz (.str w), .fz d] ∧ benchOk L W B ∧ tyA d = true ∧
  (((w = "box" ∨ w = "grain" ∨ w = "heavy") ∧ ((whB d = false ∧ Q (.fz (wD 0)) []) ∨ ∃ i : Int, d = .int i ∧ (i < 1 ∨ ((pcsF L W B 0).length : Int) < i) ∧ Q (.fz (pieceD i)) [])) ∨ (w = "point" ∧ ptB d = false ∧ Q (.fz (wD 0)) []))
def ldueX : SemF := fun args Q E => ∃ (L W : Int) (B : List Bed), args = [.fz (.int L), .fz (.int W), .fz (bedsD B)] ∧ weak L W B ∧ Q (.fz (resD' (duF L W B))) []
def spoiltX : SemF := fun args Q E => ∃ (t : T) (xs : List Int) (e : Int), args = [t, .fz (intsD xs), .fz (.int e)] ∧ IsBag t ∧ spots xs ∧ M6 e ∧ ∀ ys t', spots ys → IsBag t' → Q (.fz (intsD ys)) [t']
def wildX : SemF := fun args Q E => ∃ t, args = [t] ∧ IsBag t ∧ ∀ (L W : Int) (B : List Bed) t', weak L W B → IsBag t' → Q (.fz (.nd .tup [.int L, .int W, bedsD B])) [t']
def bmeasX : SemF := fun args Q E => ∃ t, args = [t] ∧ IsBag t ∧ ∀ d t', gd 2 150 d → btB d 1 1000000 = false → IsBag t' → Q (.fz d) [t']
def bjntX : SemF := fun args Q E => ∃ (t : T) (xs : List Int), args = [t, .fz (intsD xs)] ∧ IsBag t ∧ spots xs ∧ ∀ d t', gd 3 3700 d → jnB d = false → IsBag t' → Q (.fz d) [t']
def bbedX : SemF := fun args Q E => ∃ (t : T) (b : Bed), args = [t, .fz (bedD b)] ∧ IsBag t ∧ wbed b ∧ ∀ d t', gd 5 20000 d → bedB d = false → IsBag t' → Q (.fz d) [t']
def bbedsX : SemF := fun args Q E => ∃ (t : T) (L W : Int) (B : List Bed), args = [t, .fz (bedsD B)] ∧ IsBag t ∧ weak L W B ∧ ∀ d t', gd 7 140000 d → bedsB d = false → IsBag t' → Q (.fz d) [t']
def wrongsX : SemF := fun args Q E => ∃ (t : T) (L W : Int) (B : List Bed), args = [t, .fz (.int L), .fz (.int W), .fz (bedsD B)] ∧ IsBag t ∧ weak L W B ∧ ∀ t', IsBag t' → Q (.fz (.bl true)) [t']
def piecesX (ca : Str → Addr) : SemF := fun args Q E => ∃ (t : T) (L W : Int) (B : List Bed), args = [t, .fz (benD ca L W B)] ∧ IsBag t ∧ benchOk L W B ∧ ∀ t', IsBag t' → Q (.fz (.bl true)) [t']
def edgesX : SemF := fun args Q E => ∃ t, args = [t] ∧ IsBag t ∧ ∀ (Bs : List (List Bed)) t', (∀ B, B ∈ Bs → weak 24 24 B) → IsBag t' → Q (.fz (.nd .lst (Bs.map bedsD))) [t']
def shownD (L W : Int) (B : List Bed) : D := .nd .lst ([.nd .tup [.int L, .int W, .int (topF B)], .int ((pcsF L W B 0).length : Nat), bedsD B] ++ (pcsF L W B 0).map ppD)
def shownX (ca : Str → Addr) : SemF := fun args Q E => ∃ (L W : Int) (B : List Bed), args = [.fz (benD ca L W B)] ∧ benchOk L W B ∧ Q (.fz (shownD L W B)) []
theorem ks_none {d : D} (ht : tyD d = true) (h : ∀ x, d ≠ .str x) : kStr d = some false := by
  obtain ⟨n, hn⟩ := Option.isSome_iff_exists.mp ht
  cases d with
  | str x => exact absurd rfl (h x)
  | nd k ds => cases k <;> cases hn <;> rfl
  | _ => cases hn <;> rfl
theorem kl_none {d : D} (ht : tyD d = true) (h : ∀ ds, d ≠ .nd .lst ds) : kLst d = some false := by
  obtain ⟨n, hn⟩ := Option.isSome_iff_exists.mp ht
  cases d with
  | nd k ds =>
    cases k with
    | lst => exact absurd rfl (h ds)
    | _ => cases hn <;> rfl
  | _ => cases hn <;> rfl
theorem gd_split {dl dw db : D} {Wr : Nat → Prop} {R : Prop} (h : (∃ n, ff (rgts dl dw db) = some n ∧ Wr n) ∨ R) (hr : R → btB dl 1 1000000 = true ∧ btB dw 1 1000000 = true ∧ bedsB db = true) :
    (btB dl 1 1000000 = false → Wr 0) ∧ (btB dl 1 1000000 = true → btB dw 1 1000000 = false → Wr 1) ∧ (btB dl 1 1000000 = true → btB dw 1 1000000 = true → bedsB db = false → Wr 2) ∧ (btB dl 1 1000000 = true → btB dw 1 1000000 = true → bedsB db = true → R) := by
  rcases h with ⟨n, hn, hw⟩ | r
  · unfold rgts at hn
    generalize btB dl 1 1000000 = p at *
    generalize btB dw 1 1000000 = q at *
    generalize bedsB db = s at *
    cases p <;> cases q <;> cases s <;> simp [ff, List.findIdx?_cons] at hn <;> subst hn <;> simp [hw]
  · obtain ⟨e1, e2, e3⟩ := hr r
    rw [e1, e2, e3]
    simp [r]
theorem pcIx_imp {L W : Int} {B : List Bed} {d : D} {Wr Wr' : Prop} {No No' : Int → Prop} {R R' : Pc → Prop} (h : pcIx L W B d Wr No R) (h1 : Wr → Wr') (h2 : ∀ i, No i → No' i) (h3 : ∀ p, R p → R' p) : pcIx L W B d Wr' No' R' := by
  rcases h with ⟨a, b⟩ | ⟨i, rfl, ⟨a, b⟩ | ⟨n, p, a, b, c⟩⟩
  · exact .inl ⟨a, h1 b⟩
  · exact .inr ⟨i, rfl, .inl ⟨a, h2 i b⟩⟩
  · exact .inr ⟨i, rfl, .inr ⟨n, p, a, b, h3 p c⟩⟩
theorem pc_bx {L W : Int} {B : List Bed} (h : benchOk L W B) {p : Pc} (hp : p ∈ pcsF L W B 0) : (⟨p.x, p.y, p.z, p.a, p.b, p.c⟩ : Bx).ok := by
  obtain ⟨h1, h2, h3, h4, h5, h6⟩ := h
  obtain ⟨a, b, c⟩ := pcs_in (by have := h1.1; omega) (by have := h2.1; omega) h4 p hp
  have h1 := h1.2
  have h2 := h2.2
  refine ⟨⟨a.1, a.2.1, ?_⟩, ⟨b.1, b.2.1, ?_⟩, ⟨c.1, c.2.1, ?_⟩⟩
  · show p.x + p.a ≤ 1000000; omega
  · show p.y + p.b ≤ 1000000; omega
  · show p.z + p.c ≤ 1000000; omega
def gdB (n k : Nat) (d : D) : Bool := d.pt n && (shrt d && decide (szD d ≤ k))
theorem gd_iff {n k : Nat} {d : D} : gdB n k d = true ↔ gd n k d := by
  unfold gdB
  simp only [Bool.and_eq_true, decide_eq_true_eq]
  exact ⟨fun ⟨a, b, c⟩ => ⟨a, b, c⟩, fun ⟨a, b, c⟩ => ⟨a, b, c⟩⟩
theorem gd_bads {n k : Nat} {ds : List D} {p : D → Bool} (h : (ds.all fun d => gdB n k d && !p d) = true) : ∀ d, d ∈ ds → gd n k d ∧ p d = false := fun d hd => by
  have := List.all_eq_true.mp h d hd
  rw [Bool.and_eq_true] at this
  exact ⟨gd_iff.mp this.1, by simpa using this.2⟩
theorem cut_take {α : Type} {l : List α} {a : Int} (h : 0 ≤ a) : cutL l none (some a) = l.take a.toNat := by
  unfold cutL
  simp only [HT.sIx, if_neg (show ¬ a < 0 by omega), Nat.sub_zero, List.drop_zero]
  rcases Nat.le_total a.toNat l.length with z | z
  · rw [Nat.min_eq_left z]
  · rw [Nat.min_eq_right z, List.take_of_length_le (Nat.le_refl _), List.take_of_length_le z]
theorem cut_drop {α : Type} {l : List α} {a : Int} (h : 0 ≤ a) : cutL l (some a) none = l.drop a.toNat := by
  unfold cutL
  simp only [HT.sIx, if_neg (show ¬ a < 0 by omega)]
  rcases Nat.le_total a.toNat l.length with z | z
  · rw [Nat.min_eq_left z, List.take_of_length_le (by rw [List.length_drop]; omega)]
  · rw [Nat.min_eq_right z, List.drop_eq_nil_of_le z]
    simp
def isSp (d : D) : Prop := btB d 0 1000000 = true
theorem sp_int {i : Int} (h : 0 ≤ i ∧ i ≤ 1000000) : isSp (.int i) := btI.mpr h
theorem sp_xs {xs : List Int} (h : spots xs) : ∀ d, d ∈ xs.map D.int → isSp d := fun d hd => by
  obtain ⟨x, hx, rfl⟩ := List.mem_map.mp hd
  exact sp_int (h.2 x hx)
theorem sp_ex {ds : List D} (h : ∀ d, d ∈ ds → isSp d) (hl : ds.length ≤ 23) : ∃ ys : List Int, ds = ys.map D.int ∧ spots ys := by
  obtain ⟨ys, rfl, hy⟩ := ints_bt (List.all_eq_true.mpr h)
  exact ⟨ys, rfl, by rw [List.length_map] at hl; exact hl, hy⟩
theorem cut_mem {α : Type} {l : List α} {a b : Option Int} {x : α} (h : x ∈ cutL l a b) : x ∈ l := List.mem_of_mem_drop (List.mem_of_mem_take h)
theorem rng0 {n : Nat} : rngD 0 n = (List.range n).map fun k => D.int (k : Nat) := by rw [rngD_map]; simp
theorem gd_xs {n : Nat} {xs : List Int} (h : spots xs) : ∀ d, d ∈ xs.map D.int → gd n 140 d := fun d hd => by
  obtain ⟨x, hx, rfl⟩ := List.mem_map.mp hd
  exact gd_int (by have := h.2 x hx; omega)
theorem gd_ints {n : Nat} {xs : List Int} (h : spots xs) : gd (n + 1) 3243 (intsD xs) := gd_lst (m := 23) (gd_xs h) (by rw [List.length_map]; exact h.1)
theorem gd_str {n : Nat} {x : Str} (h : gLet x) : gd n 8 (.str x) := ⟨by cases n <;> rfl, (sml_let (n := 0) h).2.1, (sml_let (n := 0) h).2.2⟩
theorem jn_bad {ds : List D} {o : D} (h : o ∈ ds) (hb : btB o 0 1000000 = false) : jnB (.nd .lst ds) = false := by
  unfold jnB
  rw [Bool.and_eq_false_iff]
  exact .inr (List.all_eq_false.mpr ⟨o, h, by rw [hb]; simp⟩)
theorem gd_bed {n : Nat} {b : Bed} (h : wbed b) : gd (n + 2) 6779 (bedD b) := by
  obtain ⟨h1, h2, h3, h4, h5⟩ := h
  unfold M6 at h1
  have a1 : gd (n + 1) 3243 (D.int b.h) := (gd_int (by omega)).mono (by decide)
  have a2 : gd (n + 1) 3243 (D.str b.g) := (gd_str h2).mono (by decide)
  have a3 : gd (n + 1) 3243 (D.int b.w) := (gd_int (by omega)).mono (by decide)
  have a4 : gd (n + 1) 3243 (intsD b.xs) := gd_ints h4
  have a5 : gd (n + 1) 3243 (intsD b.ys) := gd_ints h5
  have hm : ∀ d, d ∈ [D.int b.h, D.str b.g, D.int b.w, intsD b.xs, intsD b.ys] → gd (n + 1) 3243 d := fun d hd => by
    simp only [List.mem_cons, List.not_mem_nil, or_false] at hd
    rcases hd with rfl | rfl | rfl | rfl | rfl <;> assumption
  refine ⟨pt_tup fun d hd => (hm d hd).pt, shrts_all fun d hd => (hm d hd).sh, ?_⟩
  have b1 := (gd_int (n := 0) (i := b.h) (by omega)).sz
  have b2 := (gd_str (n := 0) h2).sz
  have b3 := (gd_int (n := 0) (i := b.w) (by omega)).sz
  have b4 := a4.sz
  have b5 := a5.sz
  rw [szD]
  simp only [szDs]
  omega
theorem gd_beds {n : Nat} {B : List Bed} (h : ∀ b, b ∈ B → wbed b) (hl : B.length ≤ 6) : gd (n + 3) 40680 (bedsD B) := gd_lst (n := n + 2) (m := 6) (fun d hd => by
  obtain ⟨b, hb, rfl⟩ := List.mem_map.mp hd
  exact gd_bed (n := n) (h b hb)) (by rw [List.length_map]; exact hl)
theorem okb_w {L W : Int} {b : Bed} (hL : M6 L) (hW : M6 W) (h : bedOk L W b) : wbed b := by
  obtain ⟨h1, h2, h3, h4, h5⟩ := h
  have hL := hL.2
  have hW := hW.2
  exact ⟨h1, h2, h3, ⟨h4.2.2, fun x hx => by have := h4.2.1 x hx; omega⟩, ⟨h5.2.2, fun x hx => by have := h5.2.1 x hx; omega⟩⟩
theorem bed_bad {a g w x y : D} (h : btB a 1 1000000 = false ∨ grB g = false ∨ btB w 1 1000 = false ∨ jnB x = false ∨ jnB y = false) : bedB (.nd .tup [a, g, w, x, y]) = false := by
  show (btB a 1 1000000 && (grB g && (btB w 1 1000 && (jnB x && jnB y)))) = false
  rcases h with h | h | h | h | h <;> rw [h] <;> simp
theorem beds_bad {ds : List D} {o : D} (h : o ∈ ds) (hb : bedB o = false) : bedsB (.nd .lst ds) = false := by
  unfold bedsB
  rw [Bool.and_eq_false_iff]
  exact .inr (List.all_eq_false.mpr ⟨o, h, by rw [hb]; simp⟩)
theorem beds_long {ds : List D} (h : 6 < ds.length) : bedsB (.nd .lst ds) = false := by
  show ((decide ((1 : Int) ≤ ds.length) && decide ((ds.length : Int) ≤ 6)) && ds.all bedB) = false
  rw [decide_eq_false (show ¬ ((ds.length : Nat) : Int) ≤ 6 by omega), Bool.and_false, Bool.false_and]
theorem gds_ok {L W : Int} {B : List Bed} (h : weak L W B) : gds (.int L) (.int W) (bedsD B) :=
  ⟨⟨0, 140, gd_int (by have := h.1; unfold M6 at this; omega), by decide⟩, ⟨0, 140, gd_int (by have := h.2.1; unfold M6 at this; omega), by decide⟩, ⟨3, 40680, gd_beds (n := 0) h.2.2.2 h.2.2.1.2, by decide⟩⟩
def rgt (k : Nat) (d : D) : Bool := if k < 2 then btB d 1 1000000 else bedsB d
def thgs (n i : Nat) (ds : List D) : Prop := ds.length = 3 ∧ ∀ p d, ds[p]? = some d → gd 7 (if p < 2 then 150 else 140000) d ∧ (p < n → rgt p d = true) ∧ (p = n → 1 ≤ i → rgt p d = false)
theorem thgs0 {n : Nat} {L W : Int} {B : List Bed} (h : weak L W B) : thgs n 0 [.int L, .int W, bedsD B] := by
  have h1 := h.1
  have h2 := h.2.1
  unfold M6 at h1 h2
  refine ⟨rfl, fun p d hd => ?_⟩
  match p, hd with
  | 0, hd => cases hd; exact ⟨(gd_int (by omega)).mono (by decide), fun _ => btI.mpr h1, by omega⟩
  | 1, hd => cases hd; exact ⟨(gd_int (by omega)).mono (by decide), fun _ => btI.mpr h2, by omega⟩
  | 2, hd => cases hd; exact ⟨(gd_beds (n := 4) h.2.2.2 h.2.2.1.2).mono (by decide), fun _ => beds_ok h.2.2, by omega⟩
  | p + 3, hd => simp at hd
theorem thgs_set {n i : Nat} {ds : List D} {d : D} (h : thgs n i ds) (hd : gd 7 (if n + i < 2 then 150 else 140000) d) (hb : rgt (n + i) d = false) : thgs n (i + 1) (ds.set (n + i) d) := by
  refine ⟨by rw [List.length_set]; exact h.1, fun p e he => ?_⟩
  rw [List.getElem?_set] at he
  split at he
  · rename_i hp
    subst hp
    split at he
    · cases he
      exact ⟨hd, by omega, fun _ _ => hb⟩
    · cases he
  · rename_i hp
    obtain ⟨a, b, c⟩ := h.2 p e he
    exact ⟨a, b, fun q _ => c q (by omega)⟩
theorem thgs_skip {n i : Nat} {ds : List D} (h : thgs n i ds) (hi : 1 ≤ i) : thgs n (i + 1) ds := ⟨h.1, fun p e he => by
  obtain ⟨a, b, c⟩ := h.2 p e he
  exact ⟨a, b, fun q _ => c q hi⟩⟩
theorem thgs_end {n i : Nat} {ds : List D} (h : thgs n i ds) (hi : 1 ≤ i) (hn : n < 3) : ∃ a b c, ds = [a, b, c] ∧ gd 7 150 a ∧ gd 7 150 b ∧ gd 7 140000 c ∧ ff (rgts a b c) = some n := by
  obtain ⟨hl, h⟩ := h
  match ds, hl with
  | [a, b, c], _ =>
  obtain ⟨a1, a2, a3⟩ := h 0 a rfl
  obtain ⟨b1, b2, b3⟩ := h 1 b rfl
  obtain ⟨c1, c2, c3⟩ := h 2 c rfl
  refine ⟨a, b, c, rfl, a1, b1, c1, ?_⟩
  have e0 : rgt 0 a = btB a 1 1000000 := rfl
  have e1 : rgt 1 b = btB b 1 1000000 := rfl
  have e2 : rgt 2 c = bedsB c := rfl
  rw [e0] at a2 a3
  rw [e1] at b2 b3
  rw [e2] at c2 c3
  unfold rgts
  match n, hn with
  | 0, _ => rw [a3 rfl hi]; rfl
  | 1, _ => rw [a2 (by decide), b3 rfl hi]; rfl
  | 2, _ => rw [a2 (by decide), b2 (by decide), c3 rfl hi]; rfl
theorem repS_let {c k : Nat} (hc : c ∈ abcL) (h1 : 1 ≤ k) (h8 : k ≤ 8) : gLet (repS ⟨#[c]⟩ k) := by
  have e : (repS ⟨#[c]⟩ k).cps.toList = List.replicate k c := by
    unfold repS
    show (List.replicate k [c]).flatten = _
    rw [List.flatten_replicate_singleton]
  have l : (repS ⟨#[c]⟩ k).length = k := by
    have : (repS ⟨#[c]⟩ k).length = (repS ⟨#[c]⟩ k).cps.toList.length := rfl
    rw [this, e, List.length_replicate]
  exact ⟨by omega, by omega, fun x hx => by rw [e, List.mem_replicate] at hx; rw [hx.2]; exact hc⟩
theorem shw3 {a b c : D} (ha : gd 7 150 a) (hb : gd 7 150 b) (hc : gd 7 140000 c) : D.pt 8 (.nd .lst [a, b, c]) = true ∧ shwX (.nd .lst [a, b, c]) := by
  have h1 : ∀ d, d ∈ [a, b, c] → gd 7 140000 d := fun d hd => by
    simp only [List.mem_cons, List.not_mem_nil, or_false] at hd
    rcases hd with rfl | rfl | rfl
    · exact ha.mono (by decide)
    · exact hb.mono (by decide)
    · exact hc
  refine ⟨pt_lst fun d hd => (h1 d hd).pt, shx_of (shrts_all fun d hd => (h1 d hd).sh) ?_⟩
  have q1 := ha.sz
  have q2 := hb.sz
  have q3 := hc.sz
  rw [szD]
  simp only [szDs]
  omega
theorem sml_spots {n : Nat} {xs : List Int} (h : spots xs) : sml 3243 (n + 1) (intsD xs) := sml_ints (m := 23) h.2 h.1
theorem sml_wbed {n : Nat} {b : Bed} (h : wbed b) : sml 6779 (n + 2) (bedD b) := by
  obtain ⟨h1, h2, h3, h4, h5⟩ := h
  unfold M6 at h1
  exact sml_mono (sml_tup (.cons (sml_int (by omega)) (.cons (sml_let h2) (.cons (sml_int (by omega)) (.cons (sml_spots h4) (.cons (sml_spots h5) .nil)))))) (by decide)
theorem sml_wbeds {n : Nat} {B : List Bed} (h : ∀ b, b ∈ B → wbed b) (hl : B.length ≤ 6) : sml 40680 (n + 3) (bedsD B) :=
  sml_lst (fun b hb => sml_wbed (h b hb)) hl
theorem sml_wD {i : Int} (h : i.natAbs ≤ 1000) : sml 200 64 (wD i) := sml_mono (sml_tup (n := 63) (.cons (sml_strL (g := "wrong") (m := 5) (by decide) (by decide)) (.cons (sml_int (by omega)) .nil))) (by decide)
theorem sml_pD {i : Int} (h : i.natAbs ≤ 1000000000000000000000) : sml 200 64 (pieceD i) := sml_mono (sml_tup (n := 63) (.cons (sml_strL (g := "piece") (m := 5) (by decide) (by decide)) (.cons (sml_int (by omega)) .nil))) (by decide)
theorem du_lt {L W : Int} {B : List Bed} {k : Nat} (h : duF L W B = .bed k) : k < B.length := by
  unfold duF at h
  split at h
  · rename_i k2 hk
    cases h
    exact List.mem_range.mp (List.mem_of_find?_eq_some hk)
  · split at h <;> cases h
theorem sml_rD {L W : Int} {B : List Bed} (h : B.length ≤ 6) : sml 300 64 (resD' (duF L W B)) := by
  cases e : duF L W B with
  | bed k =>
    have := du_lt e
    exact sml_mono (sml_tup (n := 63) (.cons (sml_strL (g := "bed") (m := 5) (by decide) (by decide)) (.cons (sml_int (by omega)) .nil))) (by decide)
  | many => exact sml_mono (sml_tup (n := 63) (.cons (sml_strL (g := "many") (m := 5) (by decide) (by decide)) (.cons (sml_int (by decide)) .nil))) (by decide)
  | told => exact sml_mono (sml_tup (n := 63) (.cons (sml_strL (g := "told") (m := 5) (by decide) (by decide)) .nil)) (by decide)
theorem al_wD {i : Int} (h : i.natAbs ≤ 1000) : (wD i).pl 64 = true ∧ shwD (wD i) := sml_al (sml_wD h) (by decide)
theorem al_pD {i : Int} (h : i.natAbs ≤ 1000000000000000000000) : (pieceD i).pl 64 = true ∧ shwD (pieceD i) := sml_al (sml_pD h) (by decide)
theorem al_rD {L W : Int} {B : List Bed} (h : B.length ≤ 6) : (resD' (duF L W B)).pl 64 = true ∧ shwD (resD' (duF L W B)) := sml_al (sml_rD h) (by decide)
theorem al_wb {B : List Bed} (h : ∀ b, b ∈ B → wbed b) (hl : B.length ≤ 6) : (bedsD B).pl 64 = true ∧ shwD (bedsD B) := sml_al (sml_wbeds (n := 61) h hl) (by decide)
theorem szDs_app : ∀ {a b : List D}, szDs (a ++ b) = szDs a + szDs b
  | [], b => by simp [szDs]
  | d :: a, b => by
    have := szDs_app (a := a) (b := b)
    simp only [List.cons_append, szDs]
    omega
theorem al_shown {L W : Int} {B : List Bed} (h : benchOk L W B) : (shownD L W B).pl 64 = true ∧ shwD (shownD L W B) := by
  have hw := ok_weak h
  have h1 := h.1
  have h2 := h.2.1
  unfold M6 at h1 h2
  have ht0 := top_nonneg (B := B) fun c hc => (h.2.2.2.1 c hc).1.1
  have ht1 := h.2.2.2.2.1
  have hpl := pcs_len (L := L) (W := W) (B := B) (z := 0)
  have h6 := h.2.2.2.2.2
  have s1 : sml 600 63 (.nd .tup [.int L, .int W, .int (topF B)]) := sml_mono (sml_tup (n := 62) (.cons (sml_int (by omega)) (.cons (sml_int (by omega)) (.cons (sml_int (by omega)) .nil)))) (by decide)
  have s2 : sml 140 63 (.int ((pcsF L W B 0).length : Nat)) := sml_int (by omega)
  have s3 : sml 40680 63 (bedsD B) := sml_wbeds (n := 60) hw.2.2.2 hw.2.2.1.2
  have s4 : ∀ d, d ∈ (pcsF L W B 0).map ppD → sml 1000 63 d := fun d hd => by
    obtain ⟨p, hp, rfl⟩ := List.mem_map.mp hd
    exact sml_piece (n := 61) h hp
  have s5 := szDs_le (k := 1000) fun d hd => (s4 d hd).2.2
  have s6 : ((pcsF L W B 0).map ppD).length * (1000 + 1) ≤ 24 * 1001 := Nat.mul_le_mul (by rw [List.length_map]; omega) (by decide)
  have sA : ∀ d, d ∈ ([D.nd .tup [.int L, .int W, .int (topF B)], .int ((pcsF L W B 0).length : Nat), bedsD B] ++ (pcsF L W B 0).map ppD) → sml 40680 63 d := fun d hd => by
    rcases List.mem_append.mp hd with q | q
    · simp only [List.mem_cons, List.not_mem_nil, or_false] at q
      rcases q with rfl | rfl | rfl
      · exact sml_mono s1 (by decide)
      · exact sml_mono s2 (by decide)
      · exact s3
    · exact sml_mono (s4 d q) (by decide)
  refine ⟨pl_lst fun d hd => (sA d hd).1, shw_of (shrts_all fun d hd => (sA d hd).2.1) ?_⟩
  have q1 := s1.2.2
  have q2 := s2.2.2
  have q3 := s3.2.2
  show szDs _ ≤ _
  rw [szDs_app]
  simp only [szDs]
  omega
def wbB (h w : Int) (xs ys : List Int) : Bool := decide ((1 ≤ h ∧ h ≤ 1000000) ∧ (1 ≤ w ∧ w ≤ 1000)) && ((decide (xs.length ≤ 23) && xs.all fun x => decide (0 ≤ x ∧ x ≤ 1000000)) && (decide (ys.length ≤ 23) && ys.all fun x => decide (0 ≤ x ∧ x ≤ 1000000)))
theorem wb_of {h w : Int} {g : Str} {xs ys : List Int} (hg : gLet g) (e : wbB h w xs ys = true) : wbed ⟨h, g, w, xs, ys⟩ := by
  simp only [wbB, Bool.and_eq_true, decide_eq_true_eq, List.all_eq_true] at e
  exact ⟨e.1.1, hg, e.1.2, e.2.1, e.2.2⟩
def far : List Int := [1, 2, 3, 4, 5, 6, 7, 8, 9, 10, 11, 12, 13, 14, 15, 16, 17, 18, 19, 20, 21, 22, 23]
def edgeB (g : Str) : List (List Bed) :=
  [[⟨999999, g, 1, [], []⟩, ⟨1, g, 1000, [23], [1]⟩], [⟨999999, g, 1, [], []⟩, ⟨2, g, 1, [], []⟩], [⟨1000000, g, 1000, far, []⟩], [⟨1000000, g, 1000, far, []⟩, ⟨1, g, 1000, [23], [1]⟩], [⟨7, g, 1, [], far⟩],
   [⟨7, g, 1, far, []⟩, ⟨1, g, 1000, [23], [1]⟩], [⟨7, g, 1, [24], []⟩], [⟨7, g, 1, [], [0]⟩],
   [⟨1, g, 1000, [23], [1]⟩, ⟨1, g, 1000, [23], [1]⟩, ⟨1, g, 1000, [23], [1]⟩, ⟨1, g, 1000, [23], [1]⟩, ⟨1, g, 1000, [23], [1]⟩, ⟨1, g, 1, [1, 2, 3, 4], []⟩],
   [⟨1, g, 1000, [23], [1]⟩, ⟨1, g, 1000, [23], [1]⟩, ⟨1, g, 1000, [23], [1]⟩, ⟨1, g, 1000, [23], [1]⟩, ⟨1, g, 1000, [23], [1]⟩, ⟨1, g, 1000, [23], [1]⟩],
   [⟨1, g, 1, [], [23, 23]⟩],
   [⟨1, g, 1000, [23], [1]⟩, ⟨1, g, 1000, [23], [1]⟩, ⟨1, g, 1000, [23], [1]⟩, ⟨1, g, 1000, [23], [1]⟩, ⟨1, g, 1000, [23], [1]⟩, ⟨1, g, 1, [1, 2], [2]⟩]]
theorem edge_all {g : Str} : ((edgeB g).all fun B => (decide (1 ≤ B.length) && decide (B.length ≤ 6)) && B.all fun b => wbB b.h b.w b.xs b.ys) = true := by rfl
theorem edge_g {g : Str} : ∀ B, B ∈ edgeB g → ∀ b, b ∈ B → b.g = g := by
  intro B hB b hb
  simp only [edgeB, List.mem_cons, List.not_mem_nil, or_false] at hB
  rcases hB with rfl | rfl | rfl | rfl | rfl | rfl | rfl | rfl | rfl | rfl | rfl | rfl <;>
    (simp only [List.mem_cons, List.not_mem_nil, or_false] at hb
     repeat (first | (subst hb; rfl) | (rcases hb with hb | hb <;> first | (subst hb; rfl) | skip)))
theorem edge_weak {g : Str} (hg : gLet g) : ∀ B, B ∈ edgeB g → weak 24 24 B := fun B hB => by
  have h := List.all_eq_true.mp (edge_all (g := g)) B hB
  simp only [Bool.and_eq_true, decide_eq_true_eq, List.all_eq_true] at h
  refine ⟨by unfold M6; omega, by unfold M6; omega, h.1, fun b hb => ?_⟩
  have e := edge_g B hB b hb
  exact wb_of (g := b.g) (by rw [e]; exact hg) (h.2 b hb)

section
variable {P : Program} {w : World} {K : PySem.W.Frag} {mg : Str → Option Value} {base : Heap} {ca : Str → Addr}
def bagT (a b c : Int) (ns : List Int) : T := .ow .lst [.int a, .int b, .int c, .nd .lst (ns.map .int)]
theorem ok_take (Df : DefAt K mg "_law_take" s_take ["_law_bag_here", "_law_many"]) (B : Bt mg) : Callee P w K mg base 1 "_law_take" ["_law_bag_here", "_law_many"] [0] takeX := by
  refine callee_of Df sc_take (by decide) (by decide) fun f cdv A outer s H EX W hr hG tk hp => ?_
  refine ⟨_, (ss_cons (s_if (t_eq (hu65 hr) ((q_ixA (hu65 hr) (p_nm 0) (q_int).p)).p (q_int).p) (ss_cons (s_set 2 q_int sc_take.nd)
      (ss_cons (s_if (t_lt ((q_ixA (hu65 hr) (p_nm 0) (q_int).p)).p ((q_b1 c_lenB g_lenB (by rfl) B.len bt_len ((q_ixA (hu65 hr) (p_nm 0) (q_int).p)).p)).p) (ss_one (s_set 2 (q_ixA (hu65 hr) ((q_ixA (hu65 hr) (p_nm 0) (q_int).p)).p ((q_ixA (hu65 hr) (p_nm 0) (q_int).p)).p) sc_take.nd)) ss_nil).cut
      (ss_cons (s_augS 0 ip_add q_int q_int)
      (ss_cons (s_if (t_ge (p_nm 2) (q_int).p) (ss_one (s_store 0 (p_nm 2).val q_int)) ss_nil).cut
      (ss_one (s_store 0 (q_mod ((q_add ((q_add ((q_mul ((q_ixA (hu65 hr) (p_nm 0) (q_int).p)).p (q_int).p)).p ((q_mod (p_nm 2) (q_int).p)).p)).p ((q_mul (q_int).p ((q_ixA (hu65 hr) (p_nm 0) (q_int).p)).p)).p)).p (q_int).p) q_int)))))) ss_nil).cut
      (ss_cons (s_if (t_gt ((q_ixA (hu65 hr) (p_nm 0) (q_int).p)).p (q_int).p) (ss_cons (s_set 3 (q_mod ((q_ixA (hu65 hr) (p_nm 0) (q_int).p)).p (p_nm 1)) sc_take.nd)
      (ss_cons (s_store 0 (q_fdiv ((q_ixA (hu65 hr) (p_nm 0) (q_int).p)).p (p_nm 1)) q_int)
      (ss_one (s_ret (p_nm 3).val)))) ss_nil)
      (ss_cons (s_set 4 (q_mod ((q_mul ((q_add ((q_ixA (hu65 hr) (p_nm 0) (q_int).p)).p (q_int).p)).p (q_int).p)).p (q_int).p) sc_take.nd)
      (ss_cons (s_set 5 (q_mod ((q_mul ((q_mod ((q_mul (p_nm 4) (p_nm 4))).p (q_int).p)).p (q_int).p)).p (q_int).p) sc_take.nd)
      (ss_cons (s_if (t_gt (p_nm 1) (q_int).p) (ss_one (s_ret (q_mod ((q_add ((q_mul (p_nm 5) (q_int).p)).p (p_nm 4))).p (p_nm 1)))) ss_nil)
      (ss_one (s_ret (q_mod ((q_fdiv (p_nm 5) (q_int).p)).p (p_nm 1))))))))), fun args Q E hl h => ?_⟩
  clear hl hr hG tk hp W EX H s outer A cdv f Df B
  obtain ⟨t, n, rfl, ⟨a, b, c, ns, rfl, ha, hb, hb2, hc, hns⟩, hn, hn2, h⟩ := h
  walk_at "vs"
  refine .mk ⟨fun e => ∃ a b c : Int, ∃ ns x, e = [some (bagT a b c ns), some (.fz (.int n)), x, none, none, none] ∧ 0 ≤ a ∧ 0 ≤ b ∧ b < 2147483647 ∧ 0 ≤ c ∧ ∀ x, x ∈ ns → 0 ≤ x, ?_, ?_⟩
  · walk_at "vs"
    refine ⟨fun h1 => ?_, fun h1 => ?_⟩
    · refine .mk ⟨fun e => ∃ x : Int, e = [some (bagT a b c ns), some (.fz (.int n)), some (.fz (.int x)), none, none, none] ∧ 0 ≤ x, ?_, ?_⟩
      · walk_at "vs"
        refine ⟨fun h2 => ?_, fun h2 => ?_⟩
        · walk_at "vs"
          simp at h2
          obtain ⟨d, e, m⟩ := at_lt (ds := ns.map D.int) hc (by simpa using h2)
          obtain ⟨x, mx, rfl⟩ := List.mem_map.mp m
          exact ⟨_, e, x, rfl, hns x mx⟩
        · exact ⟨0, rfl, by omega⟩
      · rintro e ⟨x, rfl, hx⟩
        walk_at "vs"
        refine ⟨show 2 < 4 by decide, rfl, ?_⟩
        refine .mk ⟨fun e => ∃ a : Int, e = [some (bagT a b (c + 1) ns), some (.fz (.int n)), some (.fz (.int x)), none, none, none] ∧ 0 ≤ a, ?_, ?_⟩
        · refine ⟨fun h2 => ?_, fun h2 => ?_⟩
          · walk_at "vs"
            exact hx
          · exact ⟨a, rfl, ha⟩
        · rintro e ⟨a, rfl, ha⟩
          walk_at "vs"
          exact ⟨a, _, c + 1, ns, _, rfl, ha, Int.emod_nonneg _ (by decide), Int.emod_lt_of_pos _ (by decide), by omega, hns⟩
    · exact ⟨a, b, c, ns, _, rfl, ha, hb, hb2, hc, hns⟩
  · rintro e ⟨a, b, c, ns, x, rfl, ha, hb, hb2, hc, hns⟩
    walk_at "vs"
    refine ⟨fun h1 => ?_, fun h1 => ?_⟩
    · walk_at "vs"
      exact h _ _ (Int.emod_nonneg _ (by omega)) (Int.emod_lt_of_pos _ (by omega)) ⟨a / n, b, c, ns, rfl, Int.ediv_nonneg ha (by omega), hb, hb2, hc, hns⟩
    · walk_at "vs"
      refine ⟨fun h2 => ?_, fun h2 => ?_⟩
      · walk_at "vs"
        exact h _ _ (Int.emod_nonneg _ (by omega)) (Int.emod_lt_of_pos _ (by omega)) ⟨a, b, c, ns, rfl, ha, hb, hb2, hc, hns⟩
      · walk_at "vs"
        exact h _ _ (Int.emod_nonneg _ (by omega)) (Int.emod_lt_of_pos _ (by omega)) ⟨a, b, c, ns, rfl, ha, hb, hb2, hc, hns⟩
theorem ok_bag (Df : DefAt K mg "_law_bag" s_bag ["_law_script"]) (B : Bt mg) : Callee P w K mg base 1 "_law_bag" ["_law_script"] [] bagS := by
  refine callee_of Df sc_bag (by decide) (by decide) fun f cdv A outer s H EX W hr hG tk hp => ?_
  refine ⟨_, (ss_one (s_ret (q_lst (a_cons q_int (a_cons q_int (a_cons q_int (a_cons ((q_lc (own := [("_law_cell", 1)]) rfl sc_bag.nd (i_list ((q_slice (p_nm 0) o_none (o_some q_int))).fz) (blkOk_by (by rfl)) (fun _ _ _ _ _ => (g_name 1 sc_bag.nd)) (fun _ _ _ _ _ => ts_nil) (fun _ _ _ _ _ => (q_b1 call_abs g_abs (by rfl) B.abs bt_abs (p_nm 1))))).fz a_nil))))))), fun args Q E hl h => ?_⟩
  clear hl hr hG tk hp W EX H s outer A cdv f Df B
  obtain ⟨ns, rfl, hn, h⟩ := h
  refine ⟨?_, ?_⟩
  · exact Nat.le_trans hn (by decide)
  refine .mk ⟨fun j acc e => ∃ xs : List Int, acc = xs.map .int ∧ e = [some (.fz (.scr ns)), none] ∧ ∀ x, x ∈ xs → 0 ≤ x, ⟨[], rfl, rfl, by simp⟩, ?_, ?_⟩
  · rintro j d acc e hd ⟨xs, rfl, rfl, hx⟩
    obtain ⟨x, _, rfl⟩ := List.mem_map.mp (List.mem_of_getElem? hd)
    refine ⟨fun _ => ?_, fun z => nomatch z⟩
    exact ⟨xs ++ [if x < 0 then -x else x], by simp, rfl, fun y hy => by
      rcases List.mem_append.mp hy with q | q
      · exact hx y q
      · simp at q; subst q; split <;> omega⟩
  · rintro acc e ⟨xs, rfl, rfl, hx⟩
    exact h _ ⟨0, 1234567891, 0, xs, rfl, by decide, by decide, by decide, by decide, hx⟩
theorem ok_alike (Df : DefAt K mg "_law_alike" s_alike ["_law_found", "_law_due_here"]) (B : Bt mg) : Callee P w K mg base 1 "_law_alike" ["_law_found", "_law_due_here"] [] alikeS := by
  refine callee_of Df sc_alike (by decide) (by decide) fun f cdv A outer s H EX W hr hG tk hp => ?_
  refine ⟨_, (ss_one (s_ret (q_and (q_eq (hu65 hr) (p_nm 0) (p_nm 1)) (q_one (q_eq (hu65 hr) ((q_b1 (c_repr hG (hu66 hr)) g_repr (by rfl) B.repr bt_repr (p_nm 0))).p ((q_b1 (c_repr hG (hu66 hr)) g_repr (by rfl) B.repr bt_repr (p_nm 1))).p))))), fun args Q E hl h => ?_⟩
  clear hl hr hG tk hp W EX H s outer A cdv f Df B
  obtain ⟨d, rfl, hp, hs, h⟩ := h
  refine ⟨.inr ⟨hp, hp⟩, fun h1 => ?_, fun h1 => ?_⟩
  · refine ⟨hp, hs, hp, hs, .inl rfl, ?_⟩
    have e : eqD (.str d.py.shown) (.str d.py.shown) = true := by simp [eqD]
    show Q (.fz (.bl (eqD (.str d.py.shown) (.str d.py.shown)))) []
    rw [e]
    exact h
  · simp [T.d, eqD_self 64 d hp] at h1

theorem ok_is_whole (Df : DefAt K mg "is_whole" s_is_whole ["thing"]) (B : Bt mg) : Callee P w K mg base 1 "is_whole" ["thing"] [] wholeS := by
  refine callee_of Df sc_is_whole (by decide) (by decide) fun f cdv A outer s H EX W hr hG tk hp => ?_
  refine ⟨_, (ss_one (s_ret (q_and (q_isi ki_int (by rfl) B.isinstance (by rfl) B.int bt_int (p_nm 0)) (q_one (q_not (q_isi ki_bl (by rfl) B.isinstance (by rfl) B.bool bt_bool (p_nm 0))))))), fun args Q E hl h => ?_⟩
  clear hl hr hG tk hp W EX H s outer A cdv f Df B
  obtain ⟨d, rfl, ht, h⟩ := h
  walk_at "nf"
  cases e : iB d with
  | some i => cases iB_some e; exact ⟨true, rfl, fun _ => ⟨false, rfl, h⟩, fun z => nomatch z⟩
  | none =>
    rcases ki_none ht e with ⟨b, rfl⟩ | hk
    · exact ⟨true, rfl, fun _ => ⟨true, rfl, h⟩, fun z => nomatch z⟩
    · exact ⟨false, hk, fun z => (nomatch z), fun _ => by simp only [whB, e] at h; exact h⟩
theorem ok_is_between (Df : DefAt K mg "is_between" s_is_between ["thing", "least", "most"]) (C_is_whole : Callee P w K mg base 1 "is_whole" ["thing"] [] wholeS) : Callee P w K mg base 2 "is_between" ["thing", "least", "most"] [] betweenS := by
  refine callee_of Df sc_is_between (by decide) (by decide) fun f cdv A outer s H EX W hr hG tk hp => ?_
  refine ⟨_, (ss_one (s_ret (q_and (q_callC C_is_whole tk (hr.mono (by decide)) hG (by rfl) (a_cons (p_nm 0).val a_nil) []) (q_one (q_chain op_le op_le (p_nm 1) (p_nm 0) (p_nm 2)))))), fun args Q E hl h => ?_⟩
  clear hl hr hG tk hp W EX H s outer A cdv f Df C_is_whole
  obtain ⟨d, lo, hi, rfl, ht, h⟩ := h
  walk_at "nf"
  refine ⟨d, rfl, ht, ?_⟩
  cases e : iB d with
  | some i =>
    cases iB_some e
    refine ⟨fun _ => ⟨decide (i ≤ hi), fun _ => ⟨rfl, rfl⟩, ?_⟩, fun z => nomatch z⟩
    simp only [btB, iB, Bool.decide_and] at h
    exact h
  | none =>
    simp only [whB, btB, e] at h ⊢
    exact ⟨fun z => (nomatch z), fun _ => h⟩
theorem ok_are_between (Df : DefAt K mg "are_between" s_are_between ["things", "least", "most"]) (C_is_between : Callee P w K mg base 2 "is_between" ["thing", "least", "most"] [] betweenS) : Callee P w K mg base 3 "are_between" ["things", "least", "most"] [] areS := by
  refine callee_of Df sc_are_between (by decide) (by decide) fun f cdv A outer s H EX W hr hG tk hp => ?_
  refine ⟨_, (ss_cons (s_for hp rfl (i_tup (p_nm 0).val) (g_name 3 sc_are_between.nd) (ss_one (s_if (t_not (t_val (q_callC C_is_between tk (hr.mono (by decide)) hG (by rfl) (a_cons (p_nm 3).val (a_cons (p_nm 1).val (a_cons (p_nm 2).val a_nil))) []))) (ss_one (s_ret q_bl)) ss_nil)))
      (ss_one (s_ret q_bl))), fun args Q E hl h => ?_⟩
  clear hl hr hG tk hp W EX H s outer A cdv f Df C_is_between
  obtain ⟨ds, lo, hi, rfl, ht, h⟩ := h
  walk_at "nf"
  refine .fr [3] (fun j vs => vs.length = 1 ∧ ((ds.take j).all fun d => btB d lo hi) = true) ⟨[_], rfl, rfl, rfl⟩ ?_ ?_
  · rintro j d vs hd ⟨hl, hk⟩
    match vs, hl with
    | [x], _ =>
    walk_at "nf"
    have ht2 := List.all_eq_true.mp ht d (List.mem_of_getElem? hd)
    refine ⟨_, _, _, rfl, ht2, fun z => ?_, fun z => ?_⟩
    · have : (ds.all fun d => btB d lo hi) = false := by
        rw [List.all_eq_false]
        exact ⟨d, List.mem_of_getElem? hd, by simpa using z⟩
      rw [this] at h
      exact h
    · refine ⟨[_], rfl, rfl, ?_⟩
      rw [List.take_add_one, hd, List.all_append, hk]
      simpa using z
  · rintro vs ⟨hl, hk⟩
    match vs, hl with
    | [x], _ =>
    rw [List.take_of_length_le (Nat.le_refl _)] at hk
    rw [hk] at h
    exact h
theorem ok_is_measure (Df : DefAt K mg "is_measure" s_is_measure ["thing"]) (B : Bt mg) (C_is_between : Callee P w K mg base 2 "is_between" ["thing", "least", "most"] [] betweenS) : Callee P w K mg base 3 "is_measure" ["thing"] [] measureS := by
  refine callee_of Df sc_is_measure (by decide) (by decide) fun f cdv A outer s H EX W hr hG tk hp => ?_
  refine ⟨_, (ss_one (s_ret (q_callC C_is_between tk (hr.mono (by decide)) hG (by rfl) (a_cons (p_nm 0).val (a_cons q_int (a_cons (q_glob (n := 1000000) (by rfl) B.g_MOST_MEASURE) a_nil))) []))), fun args Q E hl h => ?_⟩
  clear hl hr hG tk hp W EX H s outer A cdv f Df B C_is_between
  obtain ⟨d, rfl, ht, h⟩ := h
  exact ⟨d, 1, 1000000, rfl, ht, h⟩
theorem ok_is_spot (Df : DefAt K mg "is_spot" s_is_spot ["thing"]) (B : Bt mg) (C_is_between : Callee P w K mg base 2 "is_between" ["thing", "least", "most"] [] betweenS) : Callee P w K mg base 3 "is_spot" ["thing"] [] spotS := by
  refine callee_of Df sc_is_spot (by decide) (by decide) fun f cdv A outer s H EX W hr hG tk hp => ?_
  refine ⟨_, (ss_one (s_ret (q_callC C_is_between tk (hr.mono (by decide)) hG (by rfl) (a_cons (p_nm 0).val (a_cons q_int (a_cons (q_glob (n := 1000000) (by rfl) B.g_MOST_MEASURE) a_nil))) []))), fun args Q E hl h => ?_⟩
  clear hl hr hG tk hp W EX H s outer A cdv f Df B C_is_between
  obtain ⟨d, rfl, ht, h⟩ := h
  exact ⟨d, 0, 1000000, rfl, ht, h⟩
theorem ok_is_point (Df : DefAt K mg "is_point" s_is_point ["thing"]) (B : Bt mg) (C_are_between : Callee P w K mg base 3 "are_between" ["things", "least", "most"] [] areS) : Callee P w K mg base 4 "is_point" ["thing"] [] pointS := by
  refine callee_of Df sc_is_point (by decide) (by decide) fun f cdv A outer s H EX W hr hG tk hp => ?_
  refine ⟨_, (ss_one (s_ret (q_and (q_isi ki_tup (by rfl) B.isinstance (by rfl) B.tuple bt_tuple (p_nm 0)) (q_and (q_eq (hu65 hr) ((q_b1 c_lenB g_lenB (by rfl) B.len bt_len (p_nm 0))).p (q_int).p) (q_one (q_callC C_are_between tk (hr.mono (by decide)) hG (by rfl) (a_cons (p_nm 0).val (a_cons q_int (a_cons (q_glob (n := 1000000) (by rfl) B.g_MOST_MEASURE) a_nil))) [])))))), fun args Q E hl h => ?_⟩
  clear hl hr hG tk hp W EX H s outer A cdv f Df B C_are_between
  obtain ⟨d, rfl, ht, h⟩ := h
  walk_at "nf"
  by_cases ht3 : ∃ ds, d = .nd .tup ds
  · obtain ⟨ds, rfl⟩ := ht3
    refine ⟨true, rfl, fun _ => ⟨.inl rfl, ?_⟩, fun z => nomatch z⟩
    simp only [tyA, Bool.and_eq_true] at ht
    refine ⟨fun z => ?_, fun z => ?_⟩
    · refine ⟨ds, 0, 1000000, rfl, ht.2, ?_⟩
      match ds, z, h with
      | [a, b, c], _, h =>
        simp only [ptB] at h
        simp only [List.all_cons, List.all_nil, Bool.and_true]
        exact h
      | [], z, _ => simp [eqD, T.d] at z
      | [_], z, _ => simp [eqD, T.d] at z
      | [_, _], z, _ => simp [eqD, T.d] at z
      | _ :: _ :: _ :: _ :: _, z, _ => simp [eqD, T.d] at z; omega
    · match ds, z, h with
      | [a, b, c], z, _ => simp [eqD, T.d] at z
      | [], _, h => exact h
      | [_], _, h => exact h
      | [_, _], _, h => exact h
      | _ :: _ :: _ :: _ :: _, _, h => exact h
  · have hk := kt_none ht fun ds e => ht3 ⟨ds, e⟩
    refine ⟨false, hk, fun z => (nomatch z), fun _ => ?_⟩
    have : ptB d = false := by
      unfold ptB; split
      · exact absurd ⟨_, rfl⟩ ht3
      · rfl
    rw [this] at h
    exact h
theorem ok_is_box (Df : DefAt K mg "is_box" s_is_box ["thing"]) (B : Bt mg) (C_is_spot : Callee P w K mg base 3 "is_spot" ["thing"] [] spotS) (C_is_measure : Callee P w K mg base 3 "is_measure" ["thing"] [] measureS) : Callee P w K mg base 4 "is_box" ["thing"] [] boxS := by
  refine callee_of Df sc_is_box (by decide) (by decide) fun f cdv A outer s H EX W hr hG tk hp => ?_
  refine ⟨_, (ss_cons (s_if ((w_orM (t_not (t_val (q_isi ki_tup (by rfl) B.isinstance (by rfl) B.tuple bt_tuple (p_nm 0)))) (w_or1 (t_ne (hu65 hr) ((q_b1 c_lenB g_lenB (by rfl) B.len bt_len (p_nm 0))).p (q_int).p)))).t (ss_one (s_ret q_bl)) ss_nil)
      (ss_cons (s_for hp rfl (i_rng (by rfl) B.range q_int) (g_name 1 sc_is_box.nd) (ss_cons (s_if ((w_orM (t_not (t_val (q_callC C_is_spot tk (hr.mono (by decide)) hG (by rfl) (a_cons (q_ixA (hu65 hr) (p_nm 0) (p_nm 1)) a_nil) []))) (w_or1 (t_not (t_val (q_callC C_is_measure tk (hr.mono (by decide)) hG (by rfl) (a_cons (q_ixA (hu65 hr) (p_nm 0) ((q_add (p_nm 1) (q_int).p)).p) a_nil) [])))))).t (ss_one (s_ret q_bl)) ss_nil)
      (ss_one (s_if (t_gt ((q_add ((q_ixA (hu65 hr) (p_nm 0) (p_nm 1))).p ((q_ixA (hu65 hr) (p_nm 0) ((q_add (p_nm 1) (q_int).p)).p)).p)).p ((q_glob (n := 1000000) (by rfl) B.g_FARTHEST)).p) (ss_one (s_ret q_bl)) ss_nil))))
      (ss_one (s_ret q_bl)))), fun args Q E hl h => ?_⟩
  clear hl hr hG tk hp W EX H s outer A cdv f Df B C_is_spot C_is_measure
  obtain ⟨d, rfl, ht, h⟩ := h
  walk_at "nf"
  by_cases h6 : ∃ a b c l w k, d = .nd .tup [a, b, c, l, w, k]
  · obtain ⟨a, b, c, l, w, k, rfl⟩ := h6
    simp only [tyA, Bool.and_eq_true, List.all_cons, List.all_nil, Bool.and_true] at ht
    obtain ⟨_, ta, tb, tc, tl, tw, tk⟩ := ht
    refine ⟨true, rfl, ⟨false, fun _ => ⟨.inl rfl, rfl, rfl⟩, fun z => (nomatch z), fun _ => ?_⟩⟩
    walk_at "nf"
    refine ⟨by decide, by decide, ?_⟩
    refine .rng [1] (fun j vs => vs.length = 1 ∧ (1 ≤ j → axB a l = true) ∧ (2 ≤ j → axB b w = true) ∧ (3 ≤ j → axB c k = true)) ⟨[_], rfl, rfl, by omega, by omega, by omega⟩ ?_ ?_
    · rintro j vs hj ⟨hl, k1, k2, k3⟩
      match vs, hl with
      | [x], _ =>
      have hj : j < 3 := hj
      match j, hj with
      | 0, _ =>
        walk_at "nf"
        refine ⟨a, rfl, a, rfl, ta, ?_⟩
        walk_at "nf"
        refine ⟨!btB l 1 1000000, fun z => ⟨l, rfl, l, rfl, tl, rfl, rfl⟩, fun z => ?_, fun z => ?_⟩
        · have ax := ax_no z
          rw [bx_no (.inl ax)] at h
          exact h
        · obtain ⟨x1, hx, rfl⟩ := bt_ex (d := a) (lo := 0) (hi := 1000000) (by revert z; cases btB a 0 1000000 <;> simp)
          obtain ⟨y1, hy, rfl⟩ := bt_ex (d := l) (lo := 1) (hi := 1000000) (by revert z; cases btB l 1 1000000 <;> simp)
          refine ⟨_, rfl, _, rfl, fun z2 => ?_, fun z2 => ?_⟩
          · have ax : axB (.int x1) (.int y1) = false := by
              have z3 : (1000000 : Int) < x1 + y1 := of_decide_eq_true z2
              simp only [axB, iB]; rw [decide_eq_false]; omega
            rw [bx_no (.inl ax)] at h
            exact h
          · have z3 : ¬ (1000000 : Int) < x1 + y1 := of_decide_eq_false z2
            have ax : axB (.int x1) (.int y1) = true := ax_ok.mpr (by omega)
            exact ⟨[_], rfl, rfl, fun _ => ax, by omega, by omega⟩
      | 1, _ =>
        walk_at "nf"
        refine ⟨b, rfl, b, rfl, tb, ?_⟩
        walk_at "nf"
        refine ⟨!btB w 1 1000000, fun z => ⟨w, rfl, w, rfl, tw, rfl, rfl⟩, fun z => ?_, fun z => ?_⟩
        · have ax := ax_no z
          rw [bx_no (.inr (.inl ax))] at h
          exact h
        · obtain ⟨x1, hx, rfl⟩ := bt_ex (d := b) (lo := 0) (hi := 1000000) (by revert z; cases btB b 0 1000000 <;> simp)
          obtain ⟨y1, hy, rfl⟩ := bt_ex (d := w) (lo := 1) (hi := 1000000) (by revert z; cases btB w 1 1000000 <;> simp)
          refine ⟨_, rfl, _, rfl, fun z2 => ?_, fun z2 => ?_⟩
          · have ax : axB (.int x1) (.int y1) = false := by
              have z3 : (1000000 : Int) < x1 + y1 := of_decide_eq_true z2
              simp only [axB, iB]; rw [decide_eq_false]; omega
            rw [bx_no (.inr (.inl ax))] at h
            exact h
          · have z3 : ¬ (1000000 : Int) < x1 + y1 := of_decide_eq_false z2
            have ax : axB (.int x1) (.int y1) = true := ax_ok.mpr (by omega)
            exact ⟨[_], rfl, rfl, fun _ => k1 (by decide), fun _ => ax, by omega⟩
      | 2, _ =>
        walk_at "nf"
        refine ⟨c, rfl, c, rfl, tc, ?_⟩
        walk_at "nf"
        refine ⟨!btB k 1 1000000, fun z => ⟨k, rfl, k, rfl, tk, rfl, rfl⟩, fun z => ?_, fun z => ?_⟩
        · have ax := ax_no z
          rw [bx_no (.inr (.inr ax))] at h
          exact h
        · obtain ⟨x1, hx, rfl⟩ := bt_ex (d := c) (lo := 0) (hi := 1000000) (by revert z; cases btB c 0 1000000 <;> simp)
          obtain ⟨y1, hy, rfl⟩ := bt_ex (d := k) (lo := 1) (hi := 1000000) (by revert z; cases btB k 1 1000000 <;> simp)
          refine ⟨_, rfl, _, rfl, fun z2 => ?_, fun z2 => ?_⟩
          · have ax : axB (.int x1) (.int y1) = false := by
              have z3 : (1000000 : Int) < x1 + y1 := of_decide_eq_true z2
              simp only [axB, iB]; rw [decide_eq_false]; omega
            rw [bx_no (.inr (.inr ax))] at h
            exact h
          · have z3 : ¬ (1000000 : Int) < x1 + y1 := of_decide_eq_false z2
            have ax : axB (.int x1) (.int y1) = true := ax_ok.mpr (by omega)
            exact ⟨[_], rfl, rfl, fun _ => k1 (by decide), fun _ => k2 (by decide), fun _ => ax⟩
    · rintro vs ⟨hl, k1, k2, k3⟩
      match vs, hl with
      | [x], _ =>
      walk_at "nf"
      simp only [bxB, k1 (by decide), k2 (by decide), k3 (by decide), Bool.and_self] at h
      exact h
  · have hk : bxB d = false := by
      unfold bxB; split
      · exact absurd ⟨_, _, _, _, _, _, rfl⟩ h6
      · rfl
    rw [hk] at h
    by_cases ht3 : ∃ ds, d = .nd .tup ds
    · obtain ⟨ds, rfl⟩ := ht3
      refine ⟨true, rfl, true, fun _ => ⟨.inl rfl, ?_, rfl⟩, fun _ => h, fun z => nomatch z⟩
      match ds, h6 with
      | [a, b, c, l, w, k], h6 => exact absurd ⟨_, _, _, _, _, _, rfl⟩ h6
      | [], _ => rfl
      | [_], _ => rfl
      | [_, _], _ => rfl
      | [_, _, _], _ => rfl
      | [_, _, _, _], _ => rfl
      | [_, _, _, _, _], _ => rfl
      | _ :: _ :: _ :: _ :: _ :: _ :: _ :: _, _ => simp [eqD, T.d]; omega
    · have hk := kt_none ht fun ds e => ht3 ⟨ds, e⟩
      exact ⟨false, hk, true, fun z => (nomatch z), fun _ => h, fun z => nomatch z⟩
theorem ok_refuse_wrong (Df : DefAt K mg "refuse_wrong" s_refuse_wrong ["rights"]) (B : Bt mg) : Callee P w K mg base 1 "refuse_wrong" ["rights"] [] (refuseS noF) := by
  refine callee_of Df sc_refuse_wrong (by decide) (by decide) fun f cdv A outer s H EX W hr hG tk hp => ?_
  refine ⟨_, (ss_one (s_for hp rfl (i_enum (by rfl) B.enumerate (p_nm 0).val) (g_tup (n := 2) rfl (gs_cons (g_name 1 sc_refuse_wrong.nd) (gs_cons (g_name 2 sc_refuse_wrong.nd) gs_nil))) (ss_one (s_if (t_not (t_val (p_nm 2).val)) (ss_one s_never) ss_nil)))), fun args Q E hl h => ?_⟩
  clear hl hr hG tk hp W EX H s outer A cdv f Df B
  obtain ⟨bs, rfl, hE, h⟩ := h
  walk_at "nf"
  refine .fr [1, 2] (fun j vs => vs.length = 2 ∧ ff (bs.take j) = none) ⟨[_, _], rfl, rfl, rfl⟩ ?_ ?_
  · rintro j d vs hd ⟨hl, hk⟩
    obtain ⟨x, hx, rfl⟩ := enumD_get hd
    rw [List.getElem?_map] at hx
    obtain ⟨b, hb, rfl⟩ := Option.map_eq_some_iff.mp hx
    match vs, hl with
    | [x, y], _ =>
    walk_at "nf"
    have et : bs.take (j + 1) = bs.take j ++ [b] := by rw [List.take_add_one, hb]; rfl
    refine ⟨rfl, fun z => ?_, fun z => ⟨[_, _], rfl, rfl, ?_⟩⟩
    · have hw : ff bs = some j := by
        simp at z
        subst z
        unfold ff at hk ⊢
        rw [← List.take_append_drop (j + 1) bs, et, List.append_assoc, List.findIdx?_append, hk]
        have : (bs.take j).length = j := by rw [List.length_take]; have := (List.getElem?_eq_some_iff.mp hb).1; omega
        simp [List.findIdx?_cons, this]
      exact hE _ hw
    · simp at z
      subst z
      unfold ff at hk ⊢
      rw [et, List.findIdx?_append, hk]
      rfl
  · rintro vs ⟨hl, hk⟩
    match vs, hl with
    | [x, y], _ =>
    refine h ?_
    rwa [enumD_len, List.length_map, List.take_of_length_le (Nat.le_refl _)] at hk
theorem ok_has_point (Df : DefAt K mg "has_point" s_has_point ["box", "point"]) (B : Bt mg) (C_refuse_wrong : Callee P w K mg base 1 "refuse_wrong" ["rights"] [] (refuseS noF)) (C_is_box : Callee P w K mg base 4 "is_box" ["thing"] [] boxS) (C_is_point : Callee P w K mg base 4 "is_point" ["thing"] [] pointS) : Callee P w K mg base 5 "has_point" ["box", "point"] [] (hasS noF) := by
  refine callee_of Df sc_has_point (by decide) (by decide) fun f cdv A outer s H EX W hr hG tk hp => ?_
  refine ⟨_, (ss_cons (s_expr (q_callC C_refuse_wrong tk (hr.mono (by decide)) hG (by rfl) (a_cons ((q_lst (a_cons (q_callC C_is_box tk (hr.mono (by decide)) hG (by rfl) (a_cons (p_nm 0).val a_nil) []) (a_cons (q_callC C_is_point tk (hr.mono (by decide)) hG (by rfl) (a_cons (p_nm 1).val a_nil) []) a_nil)))).fz a_nil) []))
      (ss_cons (s_for hp rfl (i_rng (by rfl) B.range q_int) (g_name 2 sc_has_point.nd) (ss_one (s_if (t_not (t_chain op_le op_lt ((q_ixA (hu65 hr) (p_nm 0) (p_nm 2))).p ((q_ixA (hu65 hr) (p_nm 1) (p_nm 2))).p ((q_add ((q_ixA (hu65 hr) (p_nm 0) (p_nm 2))).p ((q_ixA (hu65 hr) (p_nm 0) ((q_add (p_nm 2) (q_int).p)).p)).p)).p)) (ss_one (s_ret q_bl)) ss_nil)))
      (ss_one (s_ret q_bl)))), fun args Q E hl h => ?_⟩
  clear hl hr hG tk hp W EX H s outer A cdv f Df B C_refuse_wrong C_is_box C_is_point
  obtain ⟨d, e, rfl, ht, ht2, hE, h⟩ := h
  walk_at "nf"
  refine ⟨d, rfl, ht, ?_⟩
  walk_at "nf"
  refine ⟨e, rfl, ht2, ?_⟩
  walk_at "nf"
  refine ⟨[bxB d, ptB e], rfl, hE, fun hf => ?_⟩
  obtain ⟨b, hb, rfl⟩ := bx_ex (ff2 hf).1
  obtain ⟨p, q, r, rfl⟩ := pt_ex (ff2 hf).2
  walk_at "nf"
  have h := h b p q r hb (ff2 hf).2 rfl rfl
  refine ⟨by decide, by decide, ?_⟩
  refine .rng [2] (fun j vs => vs.length = 1 ∧ (1 ≤ j → inAx b.x b.l p = true) ∧ (2 ≤ j → inAx b.y b.w q = true) ∧ (3 ≤ j → inAx b.z b.h r = true)) ⟨[_], rfl, rfl, by omega, by omega, by omega⟩ ?_ ?_
  · rintro j vs hj ⟨hl, k1, k2, k3⟩
    match vs, hl with
    | [x], _ =>
    have hj : j < 3 := hj
    match j, hj with
    | 0, _ =>
      walk_at "nf"
      refine ⟨_, rfl, _, rfl, decide (p < b.x + b.l), fun _ => ⟨_, rfl, _, rfl, rfl, rfl⟩, fun z => ?_, fun z => ?_⟩
      · have z1 : inAx b.x b.l p = false := by
          unfold inAx; rw [Bool.decide_and]
          revert z; cases (decide (b.x ≤ p) && decide (p < b.x + b.l)) <;> simp
        have : b.has p q r = false := by simp [Bx.has, z1]
        rw [this] at h
        exact h
      · have z1 : inAx b.x b.l p = true := by
          unfold inAx; rw [Bool.decide_and]
          revert z; cases (decide (b.x ≤ p) && decide (p < b.x + b.l)) <;> simp
        exact ⟨[_], rfl, rfl, fun _ => z1, by omega, by omega⟩
    | 1, _ =>
      walk_at "nf"
      refine ⟨_, rfl, _, rfl, decide (q < b.y + b.w), fun _ => ⟨_, rfl, _, rfl, rfl, rfl⟩, fun z => ?_, fun z => ?_⟩
      · have z1 : inAx b.y b.w q = false := by
          unfold inAx; rw [Bool.decide_and]
          revert z; cases (decide (b.y ≤ q) && decide (q < b.y + b.w)) <;> simp
        have : b.has p q r = false := by simp [Bx.has, z1]
        rw [this] at h
        exact h
      · have z1 : inAx b.y b.w q = true := by
          unfold inAx; rw [Bool.decide_and]
          revert z; cases (decide (b.y ≤ q) && decide (q < b.y + b.w)) <;> simp
        exact ⟨[_], rfl, rfl, fun _ => k1 (by decide), fun _ => z1, by omega⟩
    | 2, _ =>
      walk_at "nf"
      refine ⟨_, rfl, _, rfl, decide (r < b.z + b.h), fun _ => ⟨_, rfl, _, rfl, rfl, rfl⟩, fun z => ?_, fun z => ?_⟩
      · have z1 : inAx b.z b.h r = false := by
          unfold inAx; rw [Bool.decide_and]
          revert z; cases (decide (b.z ≤ r) && decide (r < b.z + b.h)) <;> simp
        have : b.has p q r = false := by simp [Bx.has, z1]
        rw [this] at h
        exact h
      · have z1 : inAx b.z b.h r = true := by
          unfold inAx; rw [Bool.decide_and]
          revert z; cases (decide (b.z ≤ r) && decide (r < b.z + b.h)) <;> simp
        exact ⟨[_], rfl, rfl, fun _ => k1 (by decide), fun _ => k2 (by decide), fun _ => z1⟩
  · rintro vs ⟨hl, k1, k2, k3⟩
    match vs, hl with
    | [x], _ =>
    simp only [Bx.has, k1 (by decide), k2 (by decide), k3 (by decide), Bool.and_self] at h
    exact h
theorem gLet_of {g : Str} (h : (decide (1 ≤ g.length) && (decide (g.length ≤ 8) && g.cps.toList.all fun c => decide (c ∈ abcL))) = true) : gLet g := by
  simp only [Bool.and_eq_true, decide_eq_true_eq, List.all_eq_true] at h
  exact h
theorem joinL_flat : ∀ ls : List (List Nat), TL.joinL [] ls = ls.flatten
  | [] => rfl
  | [p] => by simp [TL.joinL]
  | p :: q :: r => by
    have := joinL_flat (q :: r)
    simp only [TL.joinL, List.flatten_cons, List.nil_append] at this ⊢
    rw [this]
theorem flat_ones : ∀ {ys : List Str}, (∀ y, y ∈ ys → ∃ c, y = ⟨#[c]⟩ ∧ c ∈ abcL) → (ys.map TL.tl).flatten.length = ys.length ∧ ∀ c, c ∈ (ys.map TL.tl).flatten → c ∈ abcL
  | [], _ => by simp
  | y :: ys, h => by
    obtain ⟨a, b⟩ := flat_ones (ys := ys) fun z hz => h z (List.mem_cons_of_mem _ hz)
    obtain ⟨c, rfl, hc⟩ := h y (by simp)
    have e : TL.tl ⟨#[c]⟩ = [c] := rfl
    refine ⟨by rw [List.map_cons, List.flatten_cons, List.length_append, a, e]; simp; omega, fun d hd => ?_⟩
    rw [List.map_cons, List.flatten_cons, e] at hd
    rcases List.mem_append.mp hd with q | q
    · simp at q; subst q; exact hc
    · exact b d q
theorem gLet_join {ys : List Str} (h : ∀ y, y ∈ ys → ∃ c, y = ⟨#[c]⟩ ∧ c ∈ abcL) (h1 : 1 ≤ ys.length) (h2 : ys.length ≤ 8) : gLet (Txt.join "" ys) := by
  have e : (Txt.join "" ys).cps.toList = TL.joinL [] (ys.map TL.tl) := by
    have := (congrArg TL.tl (TL.join_eq "" ys)).trans (TL.tl_join "" ys)
    exact this
  rw [joinL_flat] at e
  obtain ⟨a, b⟩ := flat_ones h
  have l : (Txt.join "" ys).length = ys.length := by
    have : (Txt.join "" ys).length = (Txt.join "" ys).cps.toList.length := rfl
    rw [this, e, a]
  exact ⟨by rw [l]; exact h1, by rw [l]; exact h2, by rw [e]; exact b⟩
theorem ok_grains (Df : DefAt K mg "_law_grains" s_grains ["_law_bag_here"]) (B : Bt mg) (C_take : Callee P w K mg base 1 "_law_take" ["_law_bag_here", "_law_many"] [0] takeX) : Callee P w K mg base 2 "_law_grains" ["_law_bag_here"] [0] grainsS := by
  refine callee_of Df sc_grains (by decide) (by decide) fun f cdv A outer s H EX W hr hG tk hp => ?_
  refine ⟨_, (ss_cons (s_set 1 q_str sc_grains.nd)
      (ss_cons (s_set 2 ((q_lst (a_cons q_str (a_cons q_str (a_cons q_str (a_cons q_str (a_cons q_str (a_cons q_str a_nil)))))))).fz sc_grains.nd)
      (ss_cons (s_set 3 (q_lst a_nil) sc_grains.nd)
      (ss_cons (s_for hp rfl (i_rng (by rfl) B.range (q_ixA (hu65 hr) ((q_lst (a_cons q_int (a_cons (q_add (q_int).p ((q_callC C_take tk (hr.mono (by decide)) hG (by rfl) (a_own 0 (a_cons q_int a_nil)) [0])).p) a_nil)))).p ((q_callC C_take tk (hr.mono (by decide)) hG (by rfl) (a_own 0 (a_cons q_int a_nil)) [0])).p)) (g_name 4 sc_grains.nd) (ss_cons (s_set 5 (q_callC C_take tk (hr.mono (by decide)) hG (by rfl) (a_own 0 (a_cons q_int a_nil)) [0]) sc_grains.nd)
      (ss_cons (s_set 6 (q_ixA (hu65 hr) (p_nm 2) ((q_callC C_take tk (hr.mono (by decide)) hG (by rfl) (a_own 0 (a_cons q_int a_nil)) [0])).p) sc_grains.nd)
      (ss_cons (s_if (t_gt (p_nm 5) (q_int).p) (ss_one (s_set 6 (q_join q_str ((q_lc (own := [("_law_j", 7)]) rfl sc_grains.nd (i_rng (by rfl) B.range (q_ixA (hu65 hr) ((q_lst (a_cons q_int (a_cons q_int (a_cons (q_add (q_int).p ((q_callC C_take tk (hr.mono (by decide)) hG (by rfl) (a_own 0 (a_cons q_int a_nil)) [0])).p) a_nil))))).p (p_nm 5))) (blkOk_by (by rfl)) (fun _ _ _ _ _ => (g_name 7 sc_grains.nd)) (fun _ _ _ _ _ => ts_nil) (fun _ _ _ _ _ => (q_ixA (hu65 hr) (p_nm 1) ((q_callC C_take takes0 (hr.mono (by decide)) hG (by rfl) (a_own 0 (a_cons q_int a_nil)) [0])).p)))).p) sc_grains.nd)) ss_nil).cut
      (ss_one (s_if (t_niA (hu65 hr) (p_nm 6) (p_nm 3)) (ss_one (s_expr (q_append 3 (a_cons (p_nm 6).val a_nil)))) ss_nil))))))
      (ss_one (s_ret (q_fzn 3))))))), fun args Q E hl h => ?_⟩
  clear hl hr hG tk hp W EX H s outer A cdv f Df B C_take
  obtain ⟨t, rfl, hb, h⟩ := h
  walk_at "vs"
  rename_i v1 b1 p1 q1 hb1 v2 b2 p2 q2 hb2
  refine at_all (C := fun d => ∃ i : Int, d = .int i ∧ 1 ≤ i ∧ i ≤ 3) p2 q2 (by simp; omega) ?_
  rintro _ ⟨i, rfl, i1, i2⟩
  refine ⟨show i ≤ (16777216 : Int) by omega, show -(2 ^ 62 : Int) ≤ i by omega, ?_⟩
  refine .mk ⟨fun j e => ∃ b gs x4 x5 x6 x7, e = [some b, some (.fz (.str "abcdefghijklmnopqrstuvwxyz")), some (.fz (.nd .lst [.str "along", .str "a", .str "ab", .str "either", .str "none", .str "bed"])), some (.ow .lst (gs.map .str)), x4, x5, x6, x7] ∧ IsBag b ∧ gs.length ≤ j ∧ (0 < j → 1 ≤ gs.length) ∧ ∀ g, g ∈ gs → gLet g, ⟨_, [], _, _, _, _, rfl, hb2, by simp, by simp, by simp⟩, ?_, ?_⟩
  · rintro j d e hd ⟨b, gs, x4, x5, x6, x7, rfl, hb, g1, g2, g3⟩
    obtain ⟨hj, rfl⟩ := rngD_get hd
    walk_at "vs"
    rename_i v3 b3 p3 q3 hb3 v4 b4 p4 q4 hb4
    refine at_all (C := fun d => ∃ x : Str, d = .str x ∧ gLet x) p4 q4 (by
      intro d hd
      simp only [List.mem_cons, List.not_mem_nil, or_false] at hd
      rcases hd with rfl | rfl | rfl | rfl | rfl | rfl <;> exact ⟨_, rfl, gLet_of (by decide +kernel)⟩) ?_
    rintro _ ⟨x, rfl, hx⟩
    refine .mk ⟨fun e => ∃ b x x7, e = [some b, some (.fz (.str "abcdefghijklmnopqrstuvwxyz")), some (.fz (.nd .lst [.str "along", .str "a", .str "ab", .str "either", .str "none", .str "bed"])), some (.ow .lst (gs.map .str)), some (.fz (.int (0 + (j : Int)))), some (.fz (.int v3)), some (.fz (.str x)), x7] ∧ IsBag b ∧ gLet x, ?_, ?_⟩
    · refine ⟨fun h1 => ?_, fun h1 => ⟨_, _, _, rfl, hb4, hx⟩⟩
      have h1 : (0 : Int) < v3 := by simpa using h1
      walk_at "vs"
      rename_i v5 b5 p5 q5 hb5
      have hm : ∃ m : Int, atI [D.int 0, D.int 1, D.int (1 + v5)] v3 = some (.int m) ∧ 1 ≤ m ∧ m ≤ 8 := by
        have q3 : v3 < 3 := by simpa using q3
        obtain rfl | rfl : v3 = 1 ∨ v3 = 2 := by omega
        · exact ⟨1, at_int (by decide) rfl, by omega, by omega⟩
        · exact ⟨1 + v5, at_int (by decide) rfl, by omega, by omega⟩
      obtain ⟨m, hm, m1, m2⟩ := hm
      refine ⟨_, hm, ?_⟩
      refine ⟨show m ≤ (16777216 : Int) by omega, show -(2 ^ 62 : Int) ≤ m by omega, ?_⟩
      refine .mk ⟨fun k acc e => ∃ b, ∃ ys : List Str, acc = ys.map .str ∧ e = [some b, some (.fz (.str "abcdefghijklmnopqrstuvwxyz")), some (.fz (.nd .lst [.str "along", .str "a", .str "ab", .str "either", .str "none", .str "bed"])), some (.ow .lst (gs.map .str)), some (.fz (.int (0 + (j : Int)))), some (.fz (.int v3)), some (.fz (.str x)), x7] ∧ IsBag b ∧ (ys.map (·.length)).sum ≤ k ∧ ys.length = k ∧ ∀ y, y ∈ ys → ∃ c, y = ⟨#[c]⟩ ∧ c ∈ abcL, ⟨_, [], rfl, rfl, hb5, by simp, by simp, by simp⟩, ?_, ?_⟩
      · rintro k d acc e hd ⟨b, ys, rfl, rfl, hb, z1, z2, z3⟩
        refine ⟨fun _ => ?_, fun z => nomatch z⟩
        walk_at "vs"
        rename_i v6 b6 p6 q6 hb6
        refine ⟨by decide, at_all (C := fun c => c ∈ abcL) p6 q6 (fun c hc => hc) fun c hc => ?_⟩
        exact ⟨b6, ys ++ [⟨#[c]⟩], by simp, rfl, hb6, by simp only [List.map_append, List.sum_append, List.map_cons, List.map_nil, List.sum_cons, List.sum_nil]; have : (Str.length ⟨#[c]⟩) = 1 := rfl; omega, by simp; omega, fun y hy => by
          rcases List.mem_append.mp hy with q | q
          · exact z3 y q
          · simp at q; exact ⟨c, q, hc⟩⟩
      · rintro acc e ⟨b, ys, rfl, rfl, hb, z1, z2, z3⟩
        rw [rngD_len] at z1 z2
        refine ⟨ys, rfl, ?_, ?_⟩
        · have : ("" : Str).length = 0 := rfl
          rw [this]; omega
        exact ⟨_, _, _, rfl, hb, gLet_join z3 (by omega) (by omega)⟩
    · rintro e ⟨b, x, x7, rfl, hb, hx⟩
      refine ⟨.inl (by simp [flD, T.d]), fun h1 => ?_, fun h1 => ?_⟩
      · refine ⟨rfl, ?_, ?_⟩
        · rw [List.length_map]; exact Nat.lt_of_le_of_lt (show gs.length ≤ 3 by omega) (by decide)
        exact ⟨b, gs ++ [x], _, _, _, _, by rw [List.map_append]; rfl, hb, by simp; omega, by simp, fun g hg => by
          rcases List.mem_append.mp hg with q | q
          · exact g3 g q
          · simp at q; subst q; exact hx⟩
      · refine ⟨b, gs, _, _, _, _, rfl, hb, by omega, fun _ => ?_, g3⟩
        rcases Nat.eq_zero_or_pos gs.length with z | z
        · rw [List.eq_nil_of_length_eq_zero z] at h1
          simp at h1
        · exact z
  · rintro e ⟨b, gs, x4, x5, x6, x7, rfl, hb, g1, g2, g3⟩
    rw [rngD_len] at g1 g2
    exact h gs b g3 (by omega) (by omega) hb

theorem ok_stretches_of (Df : DefAt K mg "stretches_of" s_stretches_of ["joints", "end"]) (B : Bt mg) : Callee P w K mg base 1 "stretches_of" ["joints", "end"] [] stretchS := by
  refine callee_of Df sc_stretches_of (by decide) (by decide) fun f cdv A outer s H EX W hr hG tk hp => ?_
  refine ⟨_, (ss_cons (s_set 2 ((q_add ((q_add ((q_lst (a_cons q_int a_nil))).p (p_nm 0))).p ((q_lst (a_cons (p_nm 1).val a_nil))).p)).fz sc_stretches_of.nd)
      (ss_one (s_ret ((q_lc (own := [("k", 3)]) rfl sc_stretches_of.nd (i_rng (by rfl) B.range (q_add ((q_b1 c_lenB g_lenB (by rfl) B.len bt_len (p_nm 0))).p (q_int).p)) (blkOk_by (by rfl)) (fun _ _ _ _ _ => (g_name 3 sc_stretches_of.nd)) (fun _ _ _ _ _ => ts_nil) (fun _ _ _ _ _ => (q_tup (a_cons (q_ixA (hu65 hr) (p_nm 2) (p_nm 3)) (a_cons (q_sub ((q_ixA (hu65 hr) (p_nm 2) ((q_add (p_nm 3) (q_int).p)).p)).p ((q_ixA (hu65 hr) (p_nm 2) (p_nm 3))).p) a_nil)))))).fz))), fun args Q E hl h => ?_⟩
  clear hl hr hG tk hp W EX H s outer A cdv f Df B
  obtain ⟨xs, e, rfl, hl, h⟩ := h
  walk_at "nf"
  have hE : (edF xs e).length = xs.length + 2 := by unfold edF; simp
  refine ⟨by simp; exact Nat.le_trans (show 1 + xs.length ≤ 24 by omega) (by decide), ?_⟩
  refine ⟨by simp; exact Nat.le_trans (show xs.length + 1 + 1 ≤ 25 by omega) (by decide), ?_⟩
  walk_at "nf"
  refine ⟨by rw [List.length_map]; exact Int.le_trans (show ((xs.length : Nat) : Int) + 1 ≤ 24 by omega) (by decide), by omega, ?_⟩
  refine .each (List.range (xs.length + 1)) (fun k => .int (k : Nat)) (by rw [List.length_map]; unfold rngD; simp) (fun k => prD ((edF xs e).getD k 0, (edF xs e).getD (k + 1) 0 - (edF xs e).getD k 0)) (fun j k hj => ⟨fun _ => ?_, fun z => nomatch z⟩) ?_
  · have hk := List.mem_range.mp (List.mem_of_getElem? hj)
    have g : ∀ m : Nat, m < xs.length + 2 → (([D.int 0] ++ xs.map D.int ++ [D.int e]) : List D)[m]? = some (.int ((edF xs e).getD m 0)) := fun m hm => by
      rw [← ed_map, List.getElem?_map, List.getD_eq_getElem?_getD, List.getElem?_eq_getElem (by omega)]; rfl
    refine ⟨.int ((edF xs e).getD k 0), at_of (g k (by omega)), .int ((edF xs e).getD (k + 1) 0), at_int (by omega) (by rw [show ((k : Int) + 1).toNat = k + 1 by omega]; exact g (k + 1) (by omega)), .int ((edF xs e).getD k 0), at_of (g k (by omega)), all_one hj, rfl⟩
  have e2 : (List.range (xs.length + 1)).map (fun k => prD ((edF xs e).getD k 0, (edF xs e).getD (k + 1) 0 - (edF xs e).getD k 0)) = (stF xs e).map prD := by unfold stF; rw [List.map_map]; rfl
  rw [e2]
  exact h
theorem ok_pieces_of (Df : DefAt K mg "pieces_of" s_pieces_of ["length", "width", "bed", "z"]) (C_stretches_of : Callee P w K mg base 1 "stretches_of" ["joints", "end"] [] stretchS) : Callee P w K mg base 2 "pieces_of" ["length", "width", "bed", "z"] [] piecesS := by
  refine callee_of Df sc_pieces_of (by decide) (by decide) fun f cdv A outer s H EX W hr hG tk hp => ?_
  refine ⟨_, (ss_cons (s_set 4 (q_lst a_nil) sc_pieces_of.nd)
      (ss_cons (s_for hp rfl (i_list (q_callC C_stretches_of tk (hr.mono (by decide)) hG (by rfl) (a_cons (q_ixA (hu65 hr) (p_nm 2) (q_int).p) (a_cons (p_nm 0).val a_nil)) [])) (g_tup (n := 2) rfl (gs_cons (g_name 5 sc_pieces_of.nd) (gs_cons (g_name 6 sc_pieces_of.nd) gs_nil))) (ss_one (s_for hp rfl (i_list (q_callC C_stretches_of tk (hr.mono (by decide)) hG (by rfl) (a_cons (q_ixA (hu65 hr) (p_nm 2) (q_int).p) (a_cons (p_nm 1).val a_nil)) [])) (g_tup (n := 2) rfl (gs_cons (g_name 7 sc_pieces_of.nd) (gs_cons (g_name 8 sc_pieces_of.nd) gs_nil))) (ss_one (s_expr (q_append 4 (a_cons (q_tup (a_cons (q_tup (a_cons (p_nm 5).val (a_cons (p_nm 7).val (a_cons (p_nm 3).val (a_cons (p_nm 6).val (a_cons (p_nm 8).val (a_cons (q_ixA (hu65 hr) (p_nm 2) (q_int).p) a_nil))))))) (a_cons (q_ixA (hu65 hr) (p_nm 2) (q_int).p) (a_cons (q_ixA (hu65 hr) (p_nm 2) (q_int).p) a_nil)))) a_nil)))))))
      (ss_one (s_ret (q_fzn 4))))), fun args Q E hl h => ?_⟩
  clear hl hr hG tk hp W EX H s outer A cdv f Df C_stretches_of
  obtain ⟨L, W, b, z, rfl, hx, hy, h⟩ := h
  walk_at "nf"
  refine ⟨_, at_int (by decide) rfl, b.xs, L, rfl, hx, ?_⟩
  refine .over (stF b.xs L) prD rfl [4, 5, 6, 7, 8] (fun j vs => ∃ x y u v, vs = [some (.ow .lst ((((stF b.xs L).take j).flatMap fun p => (stF b.ys W).map fun q => (⟨p.1, q.1, z, p.2, q.2, b.h, b.g, b.w⟩ : Pc)).map ppD)), x, y, u, v]) ⟨[_, _, _, _, _], rfl, _, _, _, _, rfl⟩ ?_ ?_
  · rintro j p vs hj ⟨x, y, u, v, rfl⟩
    have hjl := (List.getElem?_eq_some_iff.mp hj).1
    rw [st_len] at hjl
    refine ⟨rfl, ?_⟩
    walk_at "nf"
    refine ⟨_, at_int (by decide) rfl, b.ys, W, rfl, hy, ?_⟩
    obtain ⟨pre, hpre⟩ : ∃ pre, pre = ((stF b.xs L).take j).flatMap fun p => (stF b.ys W).map fun q => (⟨p.1, q.1, z, p.2, q.2, b.h, b.g, b.w⟩ : Pc) := ⟨_, rfl⟩
    rw [← hpre]
    refine .over (stF b.ys W) prD rfl [4, 7, 8] (fun k vs => ∃ u v, vs = [some (.ow .lst ((pre ++ ((stF b.ys W).take k).map fun q => (⟨p.1, q.1, z, p.2, q.2, b.h, b.g, b.w⟩ : Pc)).map ppD)), u, v]) ⟨[_, _, _], rfl, u, v, by simp⟩ ?_ ?_
    · rintro k q vs hk ⟨u, v, rfl⟩
      have hkl := (List.getElem?_eq_some_iff.mp hk).1
      rw [st_len] at hkl
      have hpl : pre.length ≤ 600 := by
        rw [hpre, fl_len, List.length_take, st_len, Nat.min_eq_left (by omega)]
        exact Nat.le_trans (Nat.mul_le_mul (show j ≤ 24 by omega) (show b.ys.length + 1 ≤ 24 by omega)) (by decide)
      refine ⟨rfl, ?_⟩
      walk_at "nf"
      refine ⟨rfl, _, at_int (by decide) rfl, _, at_int (by decide) rfl, _, at_int (by decide) rfl, ?_, ?_⟩
      · rw [List.length_map, List.length_append, List.length_map, List.length_take]
        exact Nat.lt_of_le_of_lt (show _ ≤ 700 by omega) (by decide)
      exact ⟨[_, _, _], rfl, _, _, by rw [List.take_succ, hk, Option.toList_some, List.map_append (l₁ := List.take k (stF b.ys W)), ← List.append_assoc, List.map_append (l₂ := List.map _ [q])]; exact rfl⟩
    · rintro vs ⟨u, v, rfl⟩
      rw [List.take_length]
      exact ⟨[_, _, _, _, _], rfl, _, _, _, _, by rw [List.take_succ, hj, Option.toList_some, List.flatMap_append, List.flatMap_singleton, ← hpre]⟩
  · rintro vs ⟨x, y, u, v, rfl⟩
    rw [List.take_length]
    exact h
theorem ok_Bench_size (Df : DefM K (ca "Bench") "size" "Bench.size" s_Bench_size ["self"]) (KC_Bench : Cls K (ca "Bench")) (KN_Bench : ∀ x, x ∈ (["kept_beds", "kept_pieces", "long_and_wide", "top"] : List Str) → NoAttr K (ca "Bench") x) : CalleeM P w K mg base 1 (ca "Bench") "size" ["self"] [] (sizeS ca) := by
  refine calleeM_of Df sc_Bench_size (by decide) (by decide) fun f cdv A outer s H EX W hr hG tk hp => ?_
  refine ⟨_, (ss_one (s_ret (q_tup (a_cons (q_ixA (hu65 hr) ((q_fld KC_Bench (KN_Bench _ (by simp)) (p_nm 0))).p (q_int).p) (a_cons (q_ixA (hu65 hr) ((q_fld KC_Bench (KN_Bench _ (by simp)) (p_nm 0))).p (q_int).p) (a_cons ((q_fld KC_Bench (KN_Bench _ (by simp)) (p_nm 0))).fz a_nil)))))), fun args Q E hl h => ?_⟩
  clear hl hr hG tk hp W EX H s outer A cdv f Df KC_Bench KN_Bench
  obtain ⟨L, W, B, rfl, h⟩ := h
  walk_at "nf"
  refine ⟨rfl, _, rfl, _, at_int (by decide) rfl, rfl, _, rfl, _, at_int (by decide) rfl, rfl, _, rfl, ?_⟩
  exact h
theorem ok_Bench_many (Df : DefM K (ca "Bench") "many" "Bench.many" s_Bench_many ["self"]) (B : Bt mg) (KC_Bench : Cls K (ca "Bench")) (KN_Bench : ∀ x, x ∈ (["kept_beds", "kept_pieces", "long_and_wide", "top"] : List Str) → NoAttr K (ca "Bench") x) : CalleeM P w K mg base 1 (ca "Bench") "many" ["self"] [] (manyS ca) := by
  refine calleeM_of Df sc_Bench_many (by decide) (by decide) fun f cdv A outer s H EX W hr hG tk hp => ?_
  refine ⟨_, (ss_one (s_ret (q_b1 c_lenB g_lenB (by rfl) B.len bt_len ((q_fld KC_Bench (KN_Bench _ (by simp)) (p_nm 0))).p))), fun args Q E hl h => ?_⟩
  clear hl hr hG tk hp W EX H s outer A cdv f Df B KC_Bench KN_Bench
  obtain ⟨L, W, B, rfl, h⟩ := h
  walk_at "nf"
  refine ⟨rfl, _, rfl, ?_⟩
  rw [← List.length_map (f := ppD)] at h
  exact h
theorem ok_like_bed (Df : DefAt K mg "like_bed" s_like_bed ["bed"]) (B : Bt mg) : Callee P w K mg base 1 "like_bed" ["bed"] [] likeS := by
  refine callee_of Df sc_like_bed (by decide) (by decide) fun f cdv A outer s H EX W hr hG tk hp => ?_
  refine ⟨_, (ss_one (s_ret (q_tup (a_cons (q_ixA (hu65 hr) (p_nm 0) (q_int).p) (a_cons (q_ixA (hu65 hr) (p_nm 0) (q_int).p) (a_cons (q_ixA (hu65 hr) (p_nm 0) (q_int).p) (a_cons ((q_ty1 call_list_of g_list (by rfl) B.list bt_list ((q_ixA (hu65 hr) (p_nm 0) (q_int).p)).p)).fz (a_cons ((q_ty1 call_list_of g_list (by rfl) B.list bt_list ((q_ixA (hu65 hr) (p_nm 0) (q_int).p)).p)).fz a_nil)))))))), fun args Q E hl h => ?_⟩
  clear hl hr hG tk hp W EX H s outer A cdv f Df B
  obtain ⟨b, rfl, h⟩ := h
  walk_at "nf"
  refine ⟨_, at_int (by decide) rfl, _, at_int (by decide) rfl, _, at_int (by decide) rfl, _, at_int (by decide) rfl, _, at_int (by decide) rfl, ?_⟩
  exact h
theorem ok_Bench_beds (Df : DefM K (ca "Bench") "beds" "Bench.beds" s_Bench_beds ["self"]) (KC_Bench : Cls K (ca "Bench")) (KN_Bench : ∀ x, x ∈ (["kept_beds", "kept_pieces", "long_and_wide", "top"] : List Str) → NoAttr K (ca "Bench") x) (C_like_bed : Callee P w K mg base 1 "like_bed" ["bed"] [] likeS) : CalleeM P w K mg base 2 (ca "Bench") "beds" ["self"] [] (bedsS ca) := by
  refine calleeM_of Df sc_Bench_beds (by decide) (by decide) fun f cdv A outer s H EX W hr hG tk hp => ?_
  refine ⟨_, (ss_one (s_ret ((q_lc (own := [("bed", 1)]) rfl sc_Bench_beds.nd (i_list ((q_fld KC_Bench (KN_Bench _ (by simp)) (p_nm 0))).fz) (blkOk_by (by rfl)) (fun _ _ _ _ _ => (g_name 1 sc_Bench_beds.nd)) (fun _ _ _ _ _ => ts_nil) (fun _ _ _ _ _ => (q_callC C_like_bed takes0 (hr.mono (by decide)) hG (by rfl) (a_cons (p_nm 1).val a_nil) [])))).fz)), fun args Q E hl h => ?_⟩
  clear hl hr hG tk hp W EX H s outer A cdv f Df KC_Bench KN_Bench C_like_bed
  obtain ⟨L, W, B, rfl, h⟩ := h
  walk_at "nf"
  refine ⟨rfl, _, rfl, ?_⟩
  refine .each B bedD rfl bedD (fun j a hj => ⟨fun _ => ⟨a, rfl, all_one hj, rfl⟩, fun z => nomatch z⟩) ?_
  exact h
theorem ok_measure (Df : DefAt K mg "_law_measure" s_measure ["_law_bag_here"]) (C_take : Callee P w K mg base 1 "_law_take" ["_law_bag_here", "_law_many"] [0] takeX) : Callee P w K mg base 2 "_law_measure" ["_law_bag_here"] [0] measS := by
  refine callee_of Df sc_measure (by decide) (by decide) fun f cdv A outer s H EX W hr hG tk hp => ?_
  refine ⟨_, (ss_one (s_ret (q_ixA (hu65 hr) ((q_lst (a_cons (q_add (q_int).p ((q_callC C_take tk (hr.mono (by decide)) hG (by rfl) (a_own 0 (a_cons q_int a_nil)) [0])).p) (a_cons q_int (a_cons (q_add (q_int).p ((q_callC C_take tk (hr.mono (by decide)) hG (by rfl) (a_own 0 (a_cons q_int a_nil)) [0])).p) (a_cons (q_add (q_int).p ((q_callC C_take tk (hr.mono (by decide)) hG (by rfl) (a_own 0 (a_cons q_int a_nil)) [0])).p) a_nil)))))).p ((q_callC C_take tk (hr.mono (by decide)) hG (by rfl) (a_own 0 (a_cons q_int a_nil)) [0])).p))), fun args Q E hl h => ?_⟩
  clear hl hr hG tk hp W EX H s outer A cdv f Df C_take
  obtain ⟨t, rfl, hb, h⟩ := h
  walk_at "nf"
  refine ⟨_, _, rfl, hb, by decide, by decide, fun a t1 a0 a1 hb1 => ?_⟩
  walk_at "nf"
  refine ⟨_, _, rfl, hb1, by decide, by decide, fun b t2 b0 b1 hb2 => ?_⟩
  walk_at "nf"
  refine ⟨_, _, rfl, hb2, by decide, by decide, fun c t3 c0 c1 hb3 => ?_⟩
  walk_at "nf"
  refine ⟨_, _, rfl, hb3, by decide, by decide, fun d t4 d0 d1 hb4 => ?_⟩
  refine at_all (C := fun d => ∃ i : Int, d = .int i ∧ M6 i) d0 d1 (by simp [M6]; omega) ?_
  rintro _ ⟨i, rfl, hi⟩
  exact h i t4 hi hb4
theorem ok_copy (Df : DefAt K mg "_law_copy" s_copy ["_law_beds"]) (B : Bt mg) : Callee P w K mg base 1 "_law_copy" ["_law_beds"] [] copyX := by
  refine callee_of Df sc_copy (by decide) (by decide) fun f cdv A outer s H EX W hr hG tk hp => ?_
  refine ⟨_, (ss_one (s_ret (q_lc (own := [("_law_bed_here", 1)]) rfl sc_copy.nd (i_list (p_nm 0).val) (blkOk_by (by rfl)) (fun _ _ _ _ _ => (g_name 1 sc_copy.nd)) (fun _ _ _ _ _ => ts_nil) (fun _ _ _ _ _ => (q_tup (a_cons (q_ixA (hu65 hr) (p_nm 1) (q_int).p) (a_cons (q_ixA (hu65 hr) (p_nm 1) (q_int).p) (a_cons (q_ixA (hu65 hr) (p_nm 1) (q_int).p) (a_cons ((q_ty1 call_list_of g_list (by rfl) B.list bt_list ((q_ixA (hu65 hr) (p_nm 1) (q_int).p)).p)).fz (a_cons ((q_ty1 call_list_of g_list (by rfl) B.list bt_list ((q_ixA (hu65 hr) (p_nm 1) (q_int).p)).p)).fz a_nil)))))))))), fun args Q E hl h => ?_⟩
  clear hl hr hG tk hp W EX H s outer A cdv f Df B
  obtain ⟨B, rfl, hl, h⟩ := h
  walk_at "nf"
  refine .each B bedD rfl bedD (fun j a hj => ⟨fun _ => ?_, fun z => nomatch z⟩) ?_
  · exact ⟨_, at_int (by decide) rfl, _, at_int (by decide) rfl, _, at_int (by decide) rfl, _, at_int (by decide) rfl, _, at_int (by decide) rfl, all_one hj, rfl⟩
  exact h
theorem ok_rising (Df : DefAt K mg "_law_rising" s_rising ["_law_bag_here", "_law_count", "_law_end"]) (B : Bt mg) (C_take : Callee P w K mg base 1 "_law_take" ["_law_bag_here", "_law_many"] [0] takeX) : Callee P w K mg base 2 "_law_rising" ["_law_bag_here", "_law_count", "_law_end"] [0] risingS := by
  refine callee_of Df sc_rising (by decide) (by decide) fun f cdv A outer s H EX W hr hG tk hp => ?_
  refine ⟨_, (ss_cons (s_set 3 (q_lst a_nil) sc_rising.nd)
      (ss_cons (s_set 4 q_int sc_rising.nd)
      (ss_cons (s_set 5 (q_bl_ (call_min2 rfl) g_min2 (by rfl) B.min bt_min (a_cons (p_nm 1).val (a_cons (q_sub (p_nm 2) (q_int).p) a_nil))) sc_rising.nd)
      (ss_cons (s_for hp rfl (i_rng (by rfl) B.range (p_nm 5).val) (g_name 6 sc_rising.nd) (ss_cons (s_set 7 (q_sub ((q_sub (p_nm 2) ((q_sub (p_nm 5) (p_nm 6))).p)).p (p_nm 4)) sc_rising.nd)
      (ss_cons (s_set 8 (q_ixA (hu65 hr) ((q_lst (a_cons q_int (a_cons (q_bl_ (call_min2 rfl) g_min2 (by rfl) B.min bt_min (a_cons (p_nm 7).val (a_cons q_int a_nil))) (a_cons (p_nm 7).val (a_cons (q_add (q_int).p ((q_fdiv ((q_sub (p_nm 7) (q_int).p)).p ((q_sub (p_nm 5) (p_nm 6))).p)).p) a_nil)))))).p ((q_callC C_take tk (hr.mono (by decide)) hG (by rfl) (a_own 0 (a_cons q_int a_nil)) [0])).p) sc_rising.nd)
      (ss_cons (s_set 4 (q_add ((q_add (p_nm 4) (q_int).p)).p ((q_callC C_take tk (hr.mono (by decide)) hG (by rfl) (a_own 0 (a_cons (p_nm 8).val a_nil)) [0])).p) sc_rising.nd)
      (ss_one (s_expr (q_append 3 (a_cons (p_nm 4).val a_nil))))))))
      (ss_one (s_ret (q_fzn 3))))))), fun args Q E hl h => ?_⟩
  clear hl hr hG tk hp W EX H s outer A cdv f Df B C_take
  obtain ⟨t, n, e, rfl, hb, n0, n1, he, h⟩ := h
  unfold M6 at he
  walk_at "nf"
  obtain ⟨m, hm⟩ : ∃ m : Int, m = min n (e - 1) := ⟨_, rfl⟩
  have hm2 : 0 ≤ m ∧ m ≤ n ∧ m ≤ e - 1 := by omega
  refine ⟨Int.le_trans (show min n (e - 1) ≤ 200 by omega) (by decide), by omega, ?_⟩
  rw [← hm]
  refine .rng [0, 3, 4, 6, 7, 8] (fun j vs => ∃ t, ∃ xs : List Int, ∃ l : Int, ∃ x y z, vs = [some t, some (.ow .lst (xs.map .int)), some (.fz (.int l)), x, y, z] ∧ IsBag t ∧ xs.length = j ∧ xs.Pairwise (· < ·) ∧ (∀ x, x ∈ xs → 0 < x ∧ x ≤ l) ∧ 0 ≤ l ∧ l + (m - j) ≤ e - 1) ⟨[_, _, _, _, _, _], rfl, _, [], 0, _, _, _, rfl, hb, rfl, List.Pairwise.nil, by simp, by omega, by simp; omega⟩ ?_ ?_
  · rintro j vs hj ⟨t, xs, l, x, y, z, rfl, hb, hl, hp, hx, l0, l1⟩
    have hjm : (j : Int) < m := by omega
    rw [Int.zero_add]
    walk_at "nf"
    refine ⟨cdivS (by omega) (by omega), ?_⟩
    refine ⟨_, _, rfl, hb, by decide, by decide, fun v t2 v0 v1 hb2 => ?_⟩
    have q0 : 0 ≤ (e - (m - (j : Int)) - l - 1) / (m - (j : Int)) := Int.ediv_nonneg (by omega) (by omega)
    have q1 : (e - (m - (j : Int)) - l - 1) / (m - (j : Int)) ≤ e - (m - (j : Int)) - l - 1 := Int.ediv_le_self _ (by omega)
    refine at_all (C := fun d => ∃ i : Int, d = .int i ∧ 1 ≤ i ∧ i ≤ e - (m - (j : Int)) - l) v0 v1 (by simp; omega) ?_
    rintro _ ⟨r, rfl, r1, r2⟩
    walk_at "nf"
    refine ⟨_, _, rfl, hb2, by omega, by omega, fun u t3 u0 u1 hb3 => ?_⟩
    walk_at "nf"
    refine ⟨rfl, by rw [List.length_map]; exact Nat.lt_of_le_of_lt (show xs.length ≤ 100 by omega) (by decide), ?_⟩
    refine ⟨[_, _, _, _, _, _], rfl, t3, xs ++ [l + 1 + u], l + 1 + u, _, _, _, by rw [List.map_append]; exact rfl, hb3, by simp [hl], List.pairwise_append.mpr ⟨hp, by simp, fun a ha b hb' => by
      simp at hb'; have := hx a ha; omega⟩, fun a ha => ?_, by omega, by omega⟩
    rcases List.mem_append.mp ha with q | q
    · have := hx a q; omega
    · simp at q; omega
  · rintro vs ⟨t, xs, l, x, y, z, rfl, hb, hl, hp, hx, l0, l1⟩
    exact h xs t ⟨hp, fun x hx' => by have := hx x hx'; omega, by omega⟩ (by omega) hb
theorem ok_bed (Df : DefAt K mg "_law_bed" s_bed ["_law_bag_here", "_law_grains_here", "_law_height", "_law_cap", "_law_length", "_law_width"]) (B : Bt mg) (C_take : Callee P w K mg base 1 "_law_take" ["_law_bag_here", "_law_many"] [0] takeX) (C_rising : Callee P w K mg base 2 "_law_rising" ["_law_bag_here", "_law_count", "_law_end"] [0] risingS) : Callee P w K mg base 3 "_law_bed" ["_law_bag_here", "_law_grains_here", "_law_height", "_law_cap", "_law_length", "_law_width"] [0] lbedS := by
  refine callee_of Df sc_bed (by decide) (by decide) fun f cdv A outer s H EX W hr hG tk hp => ?_
  refine ⟨_, (ss_cons (s_set 6 (q_callC C_take tk (hr.mono (by decide)) hG (by rfl) (a_own 0 (a_cons (p_nm 3).val a_nil)) [0]) sc_bed.nd)
      (ss_cons (s_set 7 (q_callC C_take tk (hr.mono (by decide)) hG (by rfl) (a_own 0 (a_cons (q_fdiv (p_nm 3) ((q_add (p_nm 6) (q_int).p)).p) a_nil)) [0]) sc_bed.nd)
      (ss_cons (s_if (t_eq (hu65 hr) ((q_callC C_take tk (hr.mono (by decide)) hG (by rfl) (a_own 0 (a_cons q_int a_nil)) [0])).p (q_int).p) (ss_one (s_par 6 7 (a_cons (p_nm 7).val (a_cons (p_nm 6).val a_nil)) rfl sc_bed.nd)) ss_nil).cut
      (ss_cons (s_set 8 (q_ixA (hu65 hr) ((q_lst (a_cons q_int (a_cons (q_add (q_int).p ((q_callC C_take tk (hr.mono (by decide)) hG (by rfl) (a_own 0 (a_cons q_int a_nil)) [0])).p) (a_cons q_int a_nil))))).p ((q_callC C_take tk (hr.mono (by decide)) hG (by rfl) (a_own 0 (a_cons q_int a_nil)) [0])).p) sc_bed.nd)
      (ss_cons (s_set 9 (q_ixA (hu65 hr) (p_nm 1) ((q_callC C_take tk (hr.mono (by decide)) hG (by rfl) (a_own 0 (a_cons (q_b1 c_lenB g_lenB (by rfl) B.len bt_len (p_nm 1)) a_nil)) [0])).p) sc_bed.nd)
      (ss_one (s_ret (q_tup (a_cons (p_nm 2).val (a_cons (p_nm 9).val (a_cons (p_nm 8).val (a_cons (q_callC C_rising tk (hr.mono (by decide)) hG (by rfl) (a_own 0 (a_cons (p_nm 6).val (a_cons (p_nm 4).val a_nil))) [0]) (a_cons (q_callC C_rising tk (hr.mono (by decide)) hG (by rfl) (a_own 0 (a_cons (p_nm 7).val (a_cons (p_nm 5).val a_nil))) [0]) a_nil))))))))))))), fun args Q E hl h => ?_⟩
  clear hl hr hG tk hp W EX H s outer A cdv f Df B C_take C_rising
  obtain ⟨t, gs, hh, c, L, W, rfl, hb, hg, g1, hm, c0, c1, hL, hW, h⟩ := h
  walk_at "nf"
  refine ⟨_, _, rfl, hb, by omega, by omega, fun a t1 a0 a1 hb1 => ?_⟩
  walk_at "nf"
  have d0 : 1 ≤ c / (a + 1) := (Int.le_ediv_iff_mul_le (by omega)).mpr (by omega)
  have d1 : c / (a + 1) ≤ c := Int.ediv_le_self _ (by omega)
  have d2 : (a + 1) * (c / (a + 1)) ≤ c := by rw [Int.mul_comm]; exact Int.ediv_mul_le _ (by omega)
  refine ⟨cdivS (by omega) (by omega), ?_⟩
  refine ⟨_, _, rfl, hb1, by omega, by omega, fun b t2 b0 b1 hb2 => ?_⟩
  have d3 : (a + 1) * (b + 1) ≤ c := Int.le_trans (Int.mul_le_mul_of_nonneg_left (show b + 1 ≤ c / (a + 1) by omega) (by omega)) d2
  walk_at "nf"
  refine .fr [0, 6, 7] (fun vs => ∃ t x y, vs = [some t, some (.fz (.int x)), some (.fz (.int y))] ∧ IsBag t ∧ (0 ≤ x ∧ x ≤ 23) ∧ (0 ≤ y ∧ y ≤ 23) ∧ (x + 1) * (y + 1) ≤ c) ?_ ?_
  · walk_at "nf"
    refine ⟨_, _, rfl, hb2, by decide, by decide, fun v t3 v0 v1 hb3 => ?_⟩
    refine ⟨.inl rfl, fun _ => ?_, fun _ => ⟨[_, _, _], rfl, _, a, b, rfl, hb3, by omega, by omega, d3⟩⟩
    exact ⟨[_, _, _], rfl, _, b, a, rfl, hb3, by omega, by omega, by rw [Int.mul_comm]; exact d3⟩
  rintro vs ⟨t, x, y, rfl, hb, hx, hy, hxy⟩
  walk_at "nf"
  refine ⟨_, _, rfl, hb, by decide, by decide, fun v t3 v0 v1 hb3 => ?_⟩
  walk_at "nf"
  refine ⟨_, _, rfl, hb3, by decide, by decide, fun u t4 u0 u1 hb4 => ?_⟩
  refine at_all (C := fun d => ∃ i : Int, d = .int i ∧ 1 ≤ i ∧ i ≤ 1000) u0 u1 (by simp; omega) ?_
  rintro _ ⟨wt, rfl, w1, w2⟩
  walk_at "nf"
  refine ⟨_, _, rfl, hb4, by simp; omega, by simp; omega, fun g t5 q0 q1 hb5 => ?_⟩
  refine at_all (C := fun d => ∃ g : Str, d = .str g ∧ gLet g) q0 (by simpa using q1) (by simpa using hg) ?_
  rintro _ ⟨gr, rfl, hgr⟩
  walk_at "nf"
  refine ⟨_, x, L, rfl, hb5, hx.1, hx.2, hL, fun xs t6 hxs hxl hb6 => ?_⟩
  refine ⟨_, y, W, rfl, hb6, hy.1, hy.2, hW, fun ys t7 hys hyl hb7 => ?_⟩
  refine h ⟨hh, gr, wt, xs, ys⟩ t7 ⟨hm, hgr, ⟨w1, w2⟩, hxs, hys⟩ rfl ?_ hb7
  show ((xs.length : Int) + 1) * ((ys.length : Int) + 1) ≤ c
  exact Int.le_trans (Int.mul_le_mul (show (xs.length : Int) + 1 ≤ x + 1 by omega) (show (ys.length : Int) + 1 ≤ y + 1 by omega) (by omega) (by omega)) hxy
theorem ok_bench (Df : DefAt K mg "_law_bench" s_bench ["_law_bag_here"]) (B : Bt mg) (C_grains : Callee P w K mg base 2 "_law_grains" ["_law_bag_here"] [0] grainsS) (C_measure : Callee P w K mg base 2 "_law_measure" ["_law_bag_here"] [0] measS) (C_take : Callee P w K mg base 1 "_law_take" ["_law_bag_here", "_law_many"] [0] takeX) (C_bed : Callee P w K mg base 3 "_law_bed" ["_law_bag_here", "_law_grains_here", "_law_height", "_law_cap", "_law_length", "_law_width"] [0] lbedS) : Callee P w K mg base 4 "_law_bench" ["_law_bag_here"] [0] lbenchS := by
  refine callee_of Df sc_bench (by decide) (by decide) fun f cdv A outer s H EX W hr hG tk hp => ?_
  refine ⟨_, (ss_cons (s_set 1 (q_callC C_grains tk (hr.mono (by decide)) hG (by rfl) (a_own 0 a_nil) [0]) sc_bench.nd)
      (ss_cons (s_set 2 (q_callC C_measure tk (hr.mono (by decide)) hG (by rfl) (a_own 0 a_nil) [0]) sc_bench.nd)
      (ss_cons (s_set 3 (q_callC C_measure tk (hr.mono (by decide)) hG (by rfl) (a_own 0 a_nil) [0]) sc_bench.nd)
      (ss_cons (s_set 4 (q_ixA (hu65 hr) ((q_lst (a_cons (q_add (q_int).p ((q_callC C_take tk (hr.mono (by decide)) hG (by rfl) (a_own 0 (a_cons q_int a_nil)) [0])).p) (a_cons (q_add (q_int).p ((q_callC C_take tk (hr.mono (by decide)) hG (by rfl) (a_own 0 (a_cons q_int a_nil)) [0])).p) a_nil)))).p ((q_callC C_take tk (hr.mono (by decide)) hG (by rfl) (a_own 0 (a_cons q_int a_nil)) [0])).p) sc_bench.nd)
      (ss_cons (s_set 5 (q_ixA (hu65 hr) ((q_lst (a_cons (q_fdiv (q_int).p (p_nm 4)) (a_cons (q_bl_ (call_min2 rfl) g_min2 (by rfl) B.min bt_min (a_cons q_int (a_cons (q_fdiv (q_int).p (p_nm 4)) a_nil))) a_nil)))).p ((q_callC C_take tk (hr.mono (by decide)) hG (by rfl) (a_own 0 (a_cons q_int a_nil)) [0])).p) sc_bench.nd)
      (ss_cons (s_set 6 (q_eq (hu65 hr) ((q_callC C_take tk (hr.mono (by decide)) hG (by rfl) (a_own 0 (a_cons q_int a_nil)) [0])).p (q_int).p) sc_bench.nd)
      (ss_cons (s_set 7 (q_callC C_take tk (hr.mono (by decide)) hG (by rfl) (a_own 0 (a_cons (q_mul (q_int).p (p_nm 4)) a_nil)) [0]) sc_bench.nd)
      (ss_cons (s_set 8 (q_lst a_nil) sc_bench.nd)
      (ss_cons (s_for hp rfl (i_rng (by rfl) B.range (p_nm 4).val) (g_name 9 sc_bench.nd) (ss_cons (s_set 10 (q_add (q_int).p ((q_callC C_take tk (hr.mono (by decide)) hG (by rfl) (a_own 0 (a_cons (q_ixA (hu65 hr) ((q_lst (a_cons q_int (a_cons (q_fdiv (q_int).p (p_nm 4)) a_nil)))).p ((q_callC C_take tk (hr.mono (by decide)) hG (by rfl) (a_own 0 (a_cons q_int a_nil)) [0])).p) a_nil)) [0])).p) sc_bench.nd)
      (ss_cons (s_if ((w_andM (t_val (p_nm 6).val) (w_and1 (t_eq (hu65 hr) (p_nm 9) ((q_sub (p_nm 4) (q_int).p)).p)))).t (ss_one (s_set 10 (q_sub (q_int).p ((q_b1 (cr_sum rfl) g_sum (by rfl) B.sum bt_sum ((q_lcO (own := [("_law_bed_here", 11)]) rfl sc_bench.nd (i_own 8) (blkOk_by (by rfl)) (fun _ _ _ _ _ => (g_name 11 sc_bench.nd)) (fun _ _ _ _ _ => ts_nil) (fun _ _ _ _ _ => (q_ixA (hu65 hr) (p_nm 11) (q_int).p)))).p)).p) sc_bench.nd)) ss_nil).cut
      (ss_cons (s_if (t_lt (p_nm 7) (p_nm 4)) (ss_one (s_set 5 (q_ixA (hu65 hr) ((q_lst (a_cons q_int (a_cons (q_sub (q_int).p (p_nm 4)) a_nil)))).p ((q_ty1 call_int1 g_int1 (by rfl) B.int bt_int ((q_eq (hu65 hr) (p_nm 9) (p_nm 7))).p)).p) sc_bench.nd)) ss_nil).cut
      (ss_one (s_expr (q_append 8 (a_cons (q_callC C_bed tk (hr.mono (by decide)) hG (by rfl) (a_own 0 (a_cons (p_nm 1).val (a_cons (p_nm 10).val (a_cons (p_nm 5).val (a_cons (p_nm 2).val (a_cons (p_nm 3).val a_nil)))))) [0]) a_nil))))))))
      (ss_one (s_ret (q_tup (a_cons (p_nm 2).val (a_cons (p_nm 3).val (a_cons (q_fzn 8) a_nil))))))))))))))), fun args Q E hl h => ?_⟩
  clear hl hr hG tk hp W EX H s outer A cdv f Df B C_grains C_measure C_take C_bed
  obtain ⟨t, rfl, hb, h⟩ := h
  walk_at "nf"
  refine ⟨_, rfl, hb, fun gs t1 hg g1 g2 hb1 => ?_⟩
  walk_at "nf"
  refine ⟨_, rfl, hb1, fun L t2 hL hb2 => ?_⟩
  walk_at "nf"
  refine ⟨_, rfl, hb2, fun W t3 hW hb3 => ?_⟩
  walk_at "nf"
  refine ⟨_, _, rfl, hb3, by decide, by decide, fun a t4 a0 a1 hb4 => ?_⟩
  walk_at "nf"
  refine ⟨_, _, rfl, hb4, by decide, by decide, fun b t5 b0 b1 hb5 => ?_⟩
  refine ⟨_, _, rfl, hb5, by decide, by decide, fun ix t6 i0 i1 hb6 => ?_⟩
  refine at_all (C := fun d => ∃ n : Int, d = .int n ∧ 1 ≤ n ∧ n ≤ 6) i0 i1 (by simp; omega) ?_
  rintro _ ⟨dp, rfl, d1, d2⟩
  walk_at "nf"
  refine ⟨cdivS (by omega) (by omega), ?_⟩
  refine ⟨cdivS (by omega) (by omega), ?_⟩
  have q0 : 4 ≤ 24 / dp := (Int.le_ediv_iff_mul_le (by omega)).mpr (by omega)
  have q1 : 24 / dp * dp ≤ 24 := Int.ediv_mul_le _ (by omega)
  refine ⟨_, _, rfl, hb6, by decide, by decide, fun jx t7 j0 j1 hb7 => ?_⟩
  refine at_all (C := fun d => ∃ c : Int, d = .int c ∧ 1 ≤ c ∧ c ≤ 24 / dp) j0 j1 (by simp; omega) ?_
  rintro _ ⟨cp, rfl, c1, c2⟩
  walk_at "nf"
  refine ⟨_, _, rfl, hb7, by decide, by decide, fun fu t8 f0 f1 hb8 => ?_⟩
  refine ⟨.inl rfl, ?_⟩
  walk_at "nf"
  refine ⟨cmulR (by omega) (by omega), ?_⟩
  refine ⟨_, _, rfl, hb8, by omega, by omega, fun lo t9 l0 l1 hb9 => ?_⟩
  walk_at "nf"
  obtain ⟨Hm, hHm⟩ : ∃ Hm : Int, Hm = 1000000 / dp := ⟨_, rfl⟩
  have r0 : 100000 ≤ Hm := by rw [hHm]; exact (Int.le_ediv_iff_mul_le (by omega)).mpr (by omega)
  have r1 : Hm * dp ≤ 1000000 := by rw [hHm]; exact Int.ediv_mul_le _ (by omega)
  have r2 : Hm ≤ 1000000 := by rw [hHm]; exact Int.ediv_le_self _ (by omega)
  refine ⟨Int.le_trans (show dp ≤ 200 by omega) (by decide), by omega, ?_⟩
  refine .rng [0, 5, 8, 9, 10] (fun j vs => ∃ (t : T) (c : Int) (B : List Bed) (x y : Option T), vs = [some t, some (.fz (.int c)), some (.ow .lst (B.map bedD)), x, y] ∧ IsBag t ∧ B.length = j ∧ (∀ b, b ∈ B → bedOk L W b) ∧ (dp ≤ lo → 1 ≤ c ∧ c ≤ 24 / dp) ∧ topF B ≤ 1000000 ∧ ((j : Int) < dp → topF B ≤ Hm * j) ∧ manyF B ≤ (if lo < dp then j + (if lo < j then 24 - dp else 0) else 24 / dp * j)) ⟨[_, _, _, _, _], rfl, _, cp, [], _, _, rfl, hb9, rfl, by simp, fun _ => ⟨c1, c2⟩, by decide, by simp [topF], by simp only [manyF, List.map_nil, List.sum_nil]; split <;> (try split) <;> omega⟩ ?_ ?_
  · rintro j vs hj ⟨t, c, B, x, y, rfl, hb, hBl, hBo, hc, ht1, ht2, hm⟩
    have hjd : (j : Int) < dp := by omega
    rw [Int.zero_add]
    walk_at "nf"
    refine ⟨cdivS (by omega) (by omega), ?_⟩
    refine ⟨_, _, rfl, hb, by decide, by decide, fun v t2 v0 v1 hb2 => ?_⟩
    refine at_all (C := fun d => ∃ n : Int, d = .int n ∧ 1 ≤ n ∧ n ≤ Hm) v0 v1 (by simp; omega) ?_
    rintro _ ⟨n, rfl, n1, n2⟩
    refine ⟨_, _, rfl, hb2, by omega, by omega, fun u t3 u0 u1 hb3 => ?_⟩
    walk_at "nf"
    refine .fr [10] (fun vs => ∃ h : Int, vs = [some (.fz (.int h))] ∧ 1 ≤ h ∧ topF B + h ≤ 1000000 ∧ ((j : Int) + 1 < dp → h ≤ Hm)) ?_ ?_
    · walk_at "nf"
      refine ⟨decide ((j : Int) = dp - 1), fun _ => ⟨.inl rfl, rfl, rfl⟩, fun z => ?_, fun z => ?_⟩
      · rw [Bool.and_eq_true, decide_eq_true_eq] at z
        have z2 := z.2
        have hb0 := ht2 hjd
        rw [z2, Int.mul_sub, Int.mul_one] at hb0
        refine .each B bedD rfl (fun b => .int b.h) (fun j a hj => ⟨fun _ => ⟨_, at_int (by decide) rfl, all_one hj, rfl⟩, fun z => nomatch z⟩) ?_
        refine ⟨B.map (·.h), by rw [List.map_map]; rfl, ?_⟩
        exact ⟨[_], rfl, 1000000 - topF B, rfl, by omega, by omega, by omega⟩
      · have hb0 := ht2 hjd
        have e := Int.mul_le_mul_of_nonneg_left (show (j : Int) + 1 ≤ dp by omega) (show 0 ≤ Hm by omega)
        rw [Int.mul_add, Int.mul_one] at e
        exact ⟨[_], rfl, 1 + u, rfl, by omega, by omega, by omega⟩
    rintro vs ⟨h, rfl, x1, x2, x3⟩
    walk_at "nf"
    refine .fr [5] (fun vs => ∃ c : Int, vs = [some (.fz (.int c))] ∧ 1 ≤ c ∧ manyF B + c ≤ (if lo < dp then j + 1 + (if lo < j + 1 then 24 - dp else 0) else 24 / dp * (j + 1)) ∧ (dp ≤ lo → 1 ≤ c ∧ c ≤ 24 / dp)) ?_ ?_
    · walk_at "nf"
      refine ⟨fun z => ?_, fun z => ?_⟩
      · have z := of_decide_eq_true z
        rw [if_pos z] at hm
        have hix : ∃ n : Int, atI [D.int 1, D.int (25 - dp)] (if decide ((j : Int) = lo) then 1 else 0) = some (.int n) ∧ 1 ≤ n ∧ manyF B + n ≤ j + 1 + (if lo < (j : Int) + 1 then 24 - dp else 0) := by
          by_cases e : (j : Int) = lo
          · refine ⟨25 - dp, by simp [e]; exact at_int (by decide) rfl, by omega, ?_⟩
            rw [if_neg (by omega)] at hm
            rw [if_pos (by omega)]; omega
          · refine ⟨1, by simp [e]; exact at_int (by decide) rfl, by omega, ?_⟩
            split at hm <;> split <;> omega
        obtain ⟨n, hn, n0, n1⟩ := hix
        refine ⟨.inl rfl, .int n, hn, ?_⟩
        exact ⟨[_], rfl, n, rfl, n0, by rw [if_pos z]; exact n1, by omega⟩
      · have z := of_decide_eq_false z
        rw [if_neg z] at hm
        have := hc (by omega)
        refine ⟨[_], rfl, c, rfl, this.1, ?_, hc⟩
        rw [if_neg z, Int.mul_add, Int.mul_one]; omega
    rintro vs ⟨c, rfl, x4, x5, x6⟩
    walk_at "nf"
    have hc24 : c ≤ 24 := by
      by_cases e : lo < dp
      · have := many_nonneg (B := B)
        rw [if_pos e] at x5
        split at x5 <;> omega
      · have := (x6 (by omega)).2
        have q2 : 24 / dp ≤ 24 := Int.ediv_le_self _ (by omega)
        omega
    refine ⟨rfl, ?_⟩
    refine ⟨_, gs, h, c, L, W, rfl, hb3, hg, ⟨g1, g2⟩, ⟨x1, by have := top_nonneg (B := B) fun b hb => (hBo b hb).1.1; omega⟩, x4, hc24, hL, hW, fun b t4 hbo hbh hbc hb4 => ?_⟩
    refine ⟨szL (by rw [List.length_map]; omega), ?_⟩
    refine ⟨[_, _, _, _, _], rfl, t4, c, B ++ [b], _, _, by rw [List.map_append]; exact rfl, hb4, by simp [hBl], fun a ha => ?_, x6, ?_, ?_, ?_⟩
    · rcases List.mem_append.mp ha with q | q
      · exact hBo a q
      · simp at q; subst q; exact hbo
    · rw [top_app]; omega
    · intro q
      have := ht2 hjd
      have := x3 (by omega)
      have e : Hm * ((j : Int) + 1) = Hm * j + Hm := by rw [Int.mul_add, Int.mul_one]
      rw [top_app, show ((j + 1 : Nat) : Int) = (j : Int) + 1 by omega, e]; omega
    · have e : manyF (B ++ [b]) = manyF B + ((b.xs.length : Int) + 1) * ((b.ys.length : Int) + 1) := by unfold manyF; simp
      rw [e]
      have : ((j + 1 : Nat) : Int) = (j : Int) + 1 := by omega
      rw [this]
      omega
  · rintro vs ⟨t, c, B, x, y, rfl, hb, hBl, hBo, hc, ht1, ht2, hm⟩
    refine h L W B t ⟨hL, hW, by omega, hBo, ht1, ?_⟩ hb
    have : ((dp.toNat : Nat) : Int) = dp := by omega
    rw [this] at hm
    split at hm
    · (try split at hm) <;> omega
    · omega

theorem ok_is_grain (Df : DefAt K mg "is_grain" s_is_grain ["thing"]) (B : Bt mg) : Callee P w K mg base 1 "is_grain" ["thing"] [] grainX := by
  refine callee_of Df sc_is_grain (by decide) (by decide) fun f cdv A outer s H EX W hr hG tk hp => ?_
  refine ⟨_, (ss_cons (s_if ((w_orM (t_not (t_val (q_isi ki_str (by rfl) B.isinstance (by rfl) B.str bt_str (p_nm 0)))) (w_or1 (t_not (t_chain op_le op_le (q_int).p ((q_b1 c_lenB g_lenB (by rfl) B.len bt_len (p_nm 0))).p ((q_glob (n := 8) (by rfl) B.g_LONGEST_GRAIN)).p))))).t (ss_one (s_ret q_bl)) ss_nil)
      (ss_cons (s_for hp rfl (i_str (p_nm 0).val) (g_name 1 sc_is_grain.nd) (ss_one (s_if (t_niA (hu65 hr) (p_nm 1) ((q_globS (s := "abcdefghijklmnopqrstuvwxyz") (by rfl) B.g_LETTERS)).p) (ss_one (s_ret q_bl)) ss_nil)))
      (ss_one (s_ret q_bl)))), fun args Q E hl h => ?_⟩
  clear hl hr hG tk hp W EX H s outer A cdv f Df B
  obtain ⟨d, rfl, ht, hz, h⟩ := h
  walk_at "nf"
  by_cases hs : ∃ x, d = .str x
  · obtain ⟨x, rfl⟩ := hs
    have hz := hz x rfl
    have h : Q (.fz (.bl (smB x))) [] := h
    refine ⟨true, rfl, !(decide ((1 : Int) ≤ x.length) && decide ((x.length : Int) ≤ 8)), fun _ => ⟨hz, decide ((x.length : Int) ≤ 8), fun _ => ⟨rfl, rfl⟩, rfl, rfl⟩, fun z => ?_, fun z => ?_⟩
    · have e : smB x = false := by
        unfold smB
        have z2 : (decide ((1 : Int) ≤ x.length) && decide ((x.length : Int) ≤ 8)) = false := by revert z; cases (decide ((1 : Int) ≤ x.length) && decide ((x.length : Int) ≤ 8)) <;> simp
        rw [z2, Bool.and_false]
      rw [e] at h
      exact h
    have z2 : (decide ((1 : Int) ≤ x.length) && decide ((x.length : Int) ≤ 8)) = true := by revert z; cases (decide ((1 : Int) ≤ x.length) && decide ((x.length : Int) ≤ 8)) <;> simp
    walk_at "nf"
    refine ⟨hz, ?_⟩
    refine .over x.cps.toList (fun c => .str ⟨#[c]⟩) rfl [1] (fun j vs => ∃ y, vs = [y] ∧ ((x.cps.toList.take j).all fun c => decide (c ∈ abcL)) = true) ⟨[_], rfl, _, rfl, rfl⟩ ?_ ?_
    · rintro j c vs hj ⟨y, rfl, hk⟩
      refine ⟨c, rfl, fun z => ?_, fun z => ?_⟩
      · have e : smB x = false := by
          have : (x.cps.toList.all fun c => decide (c ∈ abcL)) = false := by
            rw [List.all_eq_false]
            exact ⟨c, List.mem_of_getElem? hj, fun q => by
              have q2 : decide (c ∈ abcL) = true := q
              have z2 : (!decide (c ∈ abcL)) = true := z
              rw [q2] at z2; cases z2⟩
          unfold smB
          rw [this]; rfl
        rw [e] at h
        exact h
      · exact ⟨[_], rfl, _, rfl, by
          rw [List.take_add_one, hj, List.all_append, hk]
          have z2 : (!decide (c ∈ abcL)) = false := z
          cases q : decide (c ∈ abcL)
          · rw [q] at z2; cases z2
          · simp only [Option.toList_some, List.all_cons, List.all_nil, q]; rfl⟩
    · rintro vs ⟨y, rfl, hk⟩
      rw [List.take_length] at hk
      have e : smB x = true := by unfold smB; rw [hk, z2]; rfl
      rw [e] at h
      exact h
  · have hk := ks_none ht fun x e => hs ⟨x, e⟩
    have hf : grB d = false := by cases d <;> first | rfl | exact absurd ⟨_, rfl⟩ hs
    rw [hf] at h
    exact ⟨false, hk, true, fun z => (nomatch z), fun _ => h, fun z => nomatch z⟩
theorem ok_are_joints (Df : DefAt K mg "are_joints" s_are_joints ["thing"]) (B : Bt mg) (C_is_spot : Callee P w K mg base 3 "is_spot" ["thing"] [] spotS) : Callee P w K mg base 4 "are_joints" ["thing"] [] jointsX := by
  refine callee_of Df sc_are_joints (by decide) (by decide) fun f cdv A outer s H EX W hr hG tk hp => ?_
  refine ⟨_, (ss_cons (s_if ((w_orM (t_not (t_val (q_isi ki_lst (by rfl) B.isinstance (by rfl) B.list bt_list (p_nm 0)))) (w_or1 (t_gt ((q_b1 c_lenB g_lenB (by rfl) B.len bt_len (p_nm 0))).p ((q_glob (n := 23) (by rfl) B.g_MOST_JOINTS)).p)))).t (ss_one (s_ret q_bl)) ss_nil)
      (ss_one (s_ret (q_b1 (cr_all rfl) g_all (by rfl) B.all bt_all ((q_lc (own := [("spot", 1)]) rfl sc_are_joints.nd (i_list (p_nm 0).val) (blkOk_by (by rfl)) (fun _ _ _ _ _ => (g_name 1 sc_are_joints.nd)) (fun _ _ _ _ _ => ts_nil) (fun _ _ _ _ _ => (q_callC C_is_spot takes0 (hr.mono (by decide)) hG (by rfl) (a_cons (p_nm 1).val a_nil) [])))).p)))), fun args Q E hl h => ?_⟩
  clear hl hr hG tk hp W EX H s outer A cdv f Df B C_is_spot
  obtain ⟨d, n, k, rfl, hg, hk, h⟩ := h
  walk_at "nf"
  by_cases hs : ∃ ds, d = .nd .lst ds
  · obtain ⟨ds, rfl⟩ := hs
    have hc : ∀ x, x ∈ ds → tyD x = true := fun x hx => by
      cases n with
      | zero => have := hg.pt; simp [D.pt] at this
      | succ n => exact (hg.lst x hx).ty
    refine ⟨true, rfl, decide ((23 : Int) < (ds.length : Nat)), fun _ => ⟨rfl, rfl⟩, fun z => ?_, fun z => ?_⟩
    · have z : decide ((23 : Int) < (ds.length : Nat)) = true := z
      have hf : jnB (.nd .lst ds) = false := by
        have : decide ((ds.length : Int) ≤ 23) = false := decide_eq_false (by have := of_decide_eq_true z; omega)
        simp only [jnB, this, Bool.false_and]
      rw [hf] at h
      exact h
    have z : decide ((23 : Int) < (ds.length : Nat)) = false := z
    walk_at "nf"
    refine .each ds (fun d => d) (List.map_id' ds).symm (fun d => .bl (btB d 0 1000000)) (fun j a hj => ⟨fun _ => ⟨a, rfl, hc a (List.mem_of_getElem? hj), all_one hj, rfl⟩, fun z => nomatch z⟩) ?_
    have hf : jnB (.nd .lst ds) = ds.all fun d => btB d 0 1000000 := by
      have : decide ((ds.length : Int) ≤ 23) = true := decide_eq_true (by have := of_decide_eq_false z; omega)
      simp only [jnB, this, Bool.true_and]
    rw [hf] at h
    refine ⟨ds.map fun d => btB d 0 1000000, by rw [List.map_map]; rfl, ?_⟩
    rw [List.all_map]
    exact h
  · have hk := kl_none hg.ty fun x e => hs ⟨x, e⟩
    have hf : jnB d = false := by
      unfold jnB; split
      · exact absurd ⟨_, rfl⟩ hs
      · rfl
    rw [hf] at h
    exact ⟨false, hk, true, fun z => (nomatch z), fun _ => h, fun z => nomatch z⟩
theorem ok_is_bed (Df : DefAt K mg "is_bed" s_is_bed ["thing"]) (B : Bt mg) (C_are_joints : Callee P w K mg base 4 "are_joints" ["thing"] [] jointsX) (C_is_measure : Callee P w K mg base 3 "is_measure" ["thing"] [] measureS) (C_is_grain : Callee P w K mg base 1 "is_grain" ["thing"] [] grainX) (C_is_whole : Callee P w K mg base 1 "is_whole" ["thing"] [] wholeS) : Callee P w K mg base 5 "is_bed" ["thing"] [] bedX := by
  refine callee_of Df sc_is_bed (by decide) (by decide) fun f cdv A outer s H EX W hr hG tk hp => ?_
  refine ⟨_, (ss_cons (s_if ((w_orM (t_not (t_val (q_isi ki_tup (by rfl) B.isinstance (by rfl) B.tuple bt_tuple (p_nm 0)))) (w_or1 (t_ne (hu65 hr) ((q_b1 c_lenB g_lenB (by rfl) B.len bt_len (p_nm 0))).p (q_int).p)))).t (ss_one (s_ret q_bl)) ss_nil)
      (ss_cons (s_if ((w_orM (t_not (t_val (q_callC C_is_measure tk (hr.mono (by decide)) hG (by rfl) (a_cons (q_ixA (hu65 hr) (p_nm 0) (q_int).p) a_nil) []))) (w_or1 (t_not (t_val (q_callC C_is_grain tk (hr.mono (by decide)) hG (by rfl) (a_cons (q_ixA (hu65 hr) (p_nm 0) (q_int).p) a_nil) [])))))).t (ss_one (s_ret q_bl)) ss_nil)
      (ss_cons (s_if ((w_orM (t_not (t_val (q_callC C_is_whole tk (hr.mono (by decide)) hG (by rfl) (a_cons (q_ixA (hu65 hr) (p_nm 0) (q_int).p) a_nil) []))) (w_or1 (t_not (t_chain op_le op_le (q_int).p ((q_ixA (hu65 hr) (p_nm 0) (q_int).p)).p ((q_glob (n := 1000) (by rfl) B.g_MOST_HEAVY)).p))))).t (ss_one (s_ret q_bl)) ss_nil)
      (ss_one (s_ret (q_and (q_callC C_are_joints tk (hr.mono (by decide)) hG (by rfl) (a_cons (q_ixA (hu65 hr) (p_nm 0) (q_int).p) a_nil) []) (q_one (q_callC C_are_joints tk (hr.mono (by decide)) hG (by rfl) (a_cons (q_ixA (hu65 hr) (p_nm 0) (q_int).p) a_nil) [])))))))), fun args Q E hl h => ?_⟩
  clear hl hr hG tk hp W EX H s outer A cdv f Df B C_are_joints C_is_measure C_is_grain C_is_whole
  obtain ⟨d, n, k, rfl, hg, hk, h⟩ := h
  walk_at "nf"
  by_cases h5 : ∃ a g w x y, d = .nd .tup [a, g, w, x, y]
  · obtain ⟨a, g, w, x, y, rfl⟩ := h5
    have hc : ∃ m, ∀ e, e ∈ [a, g, w, x, y] → gd m k e := by
      cases n with
      | zero => have := hg.pt; simp [D.pt] at this
      | succ n => exact ⟨n, fun e he => hg.tup e he⟩
    obtain ⟨m, hc⟩ := hc
    have ga := hc a (by simp)
    have gg := hc g (by simp)
    have gw := hc w (by simp)
    have gx := hc x (by simp)
    have gy := hc y (by simp)
    have hq : bedB (.nd .tup [a, g, w, x, y]) = (btB a 1 1000000 && (grB g && (btB w 1 1000 && (jnB x && jnB y)))) := rfl
    rw [hq] at h
    refine ⟨true, rfl, false, fun _ => ⟨.inl rfl, rfl, rfl⟩, fun z => (nomatch z), fun _ => ?_⟩
    walk_at "nf"
    refine ⟨_, at_int (by decide) rfl, a, rfl, ga.ty, ?_⟩
    refine ⟨!grB g, fun _ => ⟨_, at_int (by decide) rfl, g, rfl, gg.ty, fun x hx => ?_, rfl, rfl⟩, fun z => ?_, fun z => ?_⟩
    · have := gg.sz; rw [hx, szD] at this; rw [sizeLine_eq]; rw [Str.length]; omega
    · have e : (btB a 1 1000000 && (grB g && (btB w 1 1000 && (jnB x && jnB y)))) = false := by
        revert z; cases btB a 1 1000000 <;> cases grB g <;> simp
      rw [e] at h
      exact h
    have e : btB a 1 1000000 = true ∧ grB g = true := by revert z; cases btB a 1 1000000 <;> cases grB g <;> simp
    rw [e.1, e.2, Bool.true_and, Bool.true_and] at h
    walk_at "nf"
    refine ⟨_, at_int (by decide) rfl, w, rfl, gw.ty, ?_⟩
    cases hw : iB w with
    | none =>
      have e3 : btB w 1 1000 = false := by unfold btB; rw [hw]
      rw [e3, Bool.false_and] at h
      have e4 : whB w = false := by unfold whB; rw [hw]; rfl
      rw [e4]
      exact ⟨true, fun z => (nomatch z), fun _ => h, fun z => nomatch z⟩
    | some i =>
      have := iB_some hw
      subst this
      have e3 : btB (.int i) 1 1000 = (decide (1 ≤ i) && decide (i ≤ 1000)) := by simp [btB, iB]
      rw [e3] at h
      refine ⟨!(decide (1 ≤ i) && decide (i ≤ 1000)), fun _ => ⟨_, at_int (by decide) rfl, decide (i ≤ 1000), fun _ => ⟨rfl, rfl⟩, rfl, rfl⟩, fun z => ?_, fun z => ?_⟩
      · have e : (decide (1 ≤ i) && decide (i ≤ 1000)) = false := by
          revert z; show (!true || !(decide (1 ≤ i) && decide (i ≤ 1000))) = true → _; cases (decide (1 ≤ i) && decide (i ≤ 1000)) <;> simp
        rw [e, Bool.false_and] at h
        exact h
      · have e : (decide (1 ≤ i) && decide (i ≤ 1000)) = true := by
          revert z; show (!true || !(decide (1 ≤ i) && decide (i ≤ 1000))) = false → _; cases (decide (1 ≤ i) && decide (i ≤ 1000)) <;> simp
        rw [e, Bool.true_and] at h
        walk_at "nf"
        refine ⟨_, at_int (by decide) rfl, x, m, k, rfl, gx, hk, fun z => ⟨_, at_int (by decide) rfl, y, m, k, rfl, gy, hk, ?_⟩, fun z => ?_⟩
        · rw [z, Bool.true_and] at h
          exact h
        · rw [z, Bool.false_and] at h
          exact h
  · by_cases ht3 : ∃ ds, d = .nd .tup ds
    · obtain ⟨ds, rfl⟩ := ht3
      have hf : bedB (.nd .tup ds) = false := by
        unfold bedB; split
        · rename_i e; cases e; exact absurd ⟨_, _, _, _, _, rfl⟩ h5
        · rfl
      rw [hf] at h
      refine ⟨true, rfl, true, fun _ => ⟨.inl rfl, ?_⟩, fun z => h, fun z => nomatch z⟩
      have hl : ds.length ≠ 5 := fun e => by
        match ds, e with
        | [a, b, c, d, e], _ => exact h5 ⟨_, _, _, _, _, rfl⟩
      refine ⟨?_, rfl⟩
      simp [eqD, T.d]
      omega
    · have hk := kt_none hg.tya fun ds e => ht3 ⟨ds, e⟩
      have hf : bedB d = false := by
        unfold bedB; split
        · exact absurd ⟨_, rfl⟩ ht3
        · rfl
      rw [hf] at h
      exact ⟨false, hk, true, fun z => (nomatch z), fun _ => h, fun z => nomatch z⟩
theorem ok_are_beds (Df : DefAt K mg "are_beds" s_are_beds ["thing"]) (B : Bt mg) (C_is_bed : Callee P w K mg base 5 "is_bed" ["thing"] [] bedX) : Callee P w K mg base 6 "are_beds" ["thing"] [] bedsX := by
  refine callee_of Df sc_are_beds (by decide) (by decide) fun f cdv A outer s H EX W hr hG tk hp => ?_
  refine ⟨_, (ss_cons (s_if ((w_orM (t_not (t_val (q_isi ki_lst (by rfl) B.isinstance (by rfl) B.list bt_list (p_nm 0)))) (w_or1 (t_not (t_chain op_le op_le (q_int).p ((q_b1 c_lenB g_lenB (by rfl) B.len bt_len (p_nm 0))).p ((q_glob (n := 6) (by rfl) B.g_MOST_BEDS)).p))))).t (ss_one (s_ret q_bl)) ss_nil)
      (ss_one (s_ret (q_b1 (cr_all rfl) g_all (by rfl) B.all bt_all ((q_lc (own := [("bed", 1)]) rfl sc_are_beds.nd (i_list (p_nm 0).val) (blkOk_by (by rfl)) (fun _ _ _ _ _ => (g_name 1 sc_are_beds.nd)) (fun _ _ _ _ _ => ts_nil) (fun _ _ _ _ _ => (q_callC C_is_bed takes0 (hr.mono (by decide)) hG (by rfl) (a_cons (p_nm 1).val a_nil) [])))).p)))), fun args Q E hl h => ?_⟩
  clear hl hr hG tk hp W EX H s outer A cdv f Df B C_is_bed
  obtain ⟨d, n, k, rfl, hg, hk, h⟩ := h
  walk_at "nf"
  by_cases hs : ∃ ds, d = .nd .lst ds
  · obtain ⟨ds, rfl⟩ := hs
    have hc : ∀ x, x ∈ ds → ∃ m, gd m k x := fun x hx => by
      cases n with
      | zero => have := hg.pt; simp [D.pt] at this
      | succ n => exact ⟨n, hg.lst x hx⟩
    refine ⟨true, rfl, !(decide ((1 : Int) ≤ (ds.length : Nat)) && decide (((ds.length : Nat) : Int) ≤ 6)), fun _ => ⟨decide (((ds.length : Nat) : Int) ≤ 6), fun _ => ⟨rfl, rfl⟩, rfl, rfl⟩, fun z => ?_, fun z => ?_⟩
    · have hf : bedsB (.nd .lst ds) = false := by
        have z2 : (decide ((1 : Int) ≤ (ds.length : Nat)) && decide (((ds.length : Nat) : Int) ≤ 6)) = false := by revert z; cases (decide ((1 : Int) ≤ (ds.length : Nat)) && decide (((ds.length : Nat) : Int) ≤ 6)) <;> simp
        simp only [bedsB, z2, Bool.false_and]
      rw [hf] at h
      exact h
    have z2 : (decide ((1 : Int) ≤ (ds.length : Nat)) && decide (((ds.length : Nat) : Int) ≤ 6)) = true := by revert z; cases (decide ((1 : Int) ≤ (ds.length : Nat)) && decide (((ds.length : Nat) : Int) ≤ 6)) <;> simp
    walk_at "nf"
    refine .each ds (fun d => d) (List.map_id' ds).symm (fun d => .bl (bedB d)) (fun j a hj => ⟨fun _ => ?_, fun z => nomatch z⟩) ?_
    · obtain ⟨m, hm⟩ := hc a (List.mem_of_getElem? hj)
      exact ⟨a, m, k, rfl, hm, hk, all_one hj, rfl⟩
    have hf : bedsB (.nd .lst ds) = ds.all bedB := by
      simp only [bedsB, z2, Bool.true_and]
    rw [hf] at h
    refine ⟨ds.map bedB, by rw [List.map_map]; rfl, ?_⟩
    rw [List.all_map]
    exact h
  · have hk := kl_none hg.ty fun x e => hs ⟨x, e⟩
    have hf : bedsB d = false := by
      unfold bedsB; split
      · exact absurd ⟨_, rfl⟩ hs
      · rfl
    rw [hf] at h
    exact ⟨false, hk, true, fun z => (nomatch z), fun _ => h, fun z => nomatch z⟩
theorem ok_joints_stand (Df : DefAt K mg "joints_stand" s_joints_stand ["joints", "end"]) : Callee P w K mg base 1 "joints_stand" ["joints", "end"] [] standX := by
  refine callee_of Df sc_joints_stand (by decide) (by decide) fun f cdv A outer s H EX W hr hG tk hp => ?_
  refine ⟨_, (ss_cons (s_set 2 q_int sc_joints_stand.nd)
      (ss_cons (s_for hp rfl (i_list (p_nm 0).val) (g_name 3 sc_joints_stand.nd) (ss_cons (s_if (t_not (t_chain op_lt op_lt (p_nm 2) (p_nm 3) (p_nm 1))) (ss_one (s_ret q_bl)) ss_nil)
      (ss_one (s_set 2 (p_nm 3).val sc_joints_stand.nd))))
      (ss_one (s_ret q_bl)))), fun args Q E hl h => ?_⟩
  clear hl hr hG tk hp W EX H s outer A cdv f Df
  obtain ⟨xs, e, rfl, h⟩ := h
  walk_at "nf"
  refine .fr [2, 3] (fun j vs => ∃ (l : Int) (y : Option T), vs = [some (.fz (.int l)), y] ∧ stB e 0 xs = stB e l (xs.drop j)) ⟨[_, _], rfl, 0, _, rfl, rfl⟩ ?_ ?_
  · rintro j d vs hd ⟨l, y, rfl, hk⟩
    have hd : (xs.map D.int)[j]? = some d := hd
    rw [List.getElem?_map] at hd
    obtain ⟨v, hv, rfl⟩ := Option.map_eq_some_iff.mp hd
    have hdr : xs.drop j = v :: xs.drop (j + 1) := by
      obtain ⟨hl, he⟩ := List.getElem?_eq_some_iff.mp hv
      rw [List.drop_eq_getElem_cons hl, he]
    rw [hdr] at hk
    walk_at "nf"
    refine ⟨decide (v < e), fun _ => ⟨rfl, rfl⟩, fun z => ?_, fun z => ?_⟩
    · have z2 : (decide (l < v) && decide (v < e)) = false := by revert z; cases (decide (l < v) && decide (v < e)) <;> simp
      simp only [stB, z2, Bool.false_and] at hk
      rw [hk] at h
      exact h
    · have z2 : (decide (l < v) && decide (v < e)) = true := by revert z; cases (decide (l < v) && decide (v < e)) <;> simp
      simp only [stB, z2, Bool.true_and] at hk
      exact ⟨[_, _], rfl, v, _, rfl, hk⟩
  · rintro vs ⟨l, y, rfl, hk⟩
    have hk : stB e 0 xs = stB e l (xs.drop (xs.map D.int).length) := hk
    rw [List.length_map, List.drop_length] at hk
    rw [hk] at h
    exact h
theorem ok_Bench_init (Df : DefK K mg "Bench" (ca "Bench") "Bench.__init__" s_Bench_init ["self", "length", "width", "beds"]) (B : Bt mg) (KC_Bench : Cls K (ca "Bench")) (KN_Bench : ∀ x, x ∈ (["kept_beds", "kept_pieces", "long_and_wide", "top"] : List Str) → NoAttr K (ca "Bench") x) (R_NoBed : BareG1 P w K mg base 1 "NoBed" (ca "NoBed") "at" ["self", "at"]) (R_TooMany : BareG1 P w K mg base 1 "TooMany" (ca "TooMany") "most" ["self", "most"]) (R_Wrong : BareG1 P w K mg base 1 "Wrong" (ca "Wrong") "at" ["self", "at"]) (C_is_measure : Callee P w K mg base 3 "is_measure" ["thing"] [] measureS) (C_are_beds : Callee P w K mg base 6 "are_beds" ["thing"] [] bedsX) (C_like_bed : Callee P w K mg base 1 "like_bed" ["bed"] [] likeS) (C_pieces_of : Callee P w K mg base 2 "pieces_of" ["length", "width", "bed", "z"] [] piecesS) (C_joints_stand : Callee P w K mg base 1 "joints_stand" ["joints", "end"] [] standX) : CalleeK P w K mg base 7 "Bench" (ca "Bench") ["self", "length", "width", "beds"] (initX ca) := by
  refine calleeK_of Df sc_Bench_init (by decide) (by decide) fun f cdv A outer s H EX W hr hG tk hp => ?_
  refine ⟨_, (ss_cons (s_if (t_not (t_val (q_callC C_is_measure tk (hr.mono (by decide)) hG (by rfl) (a_cons (p_nm 1).val a_nil) []))) (ss_one (s_raise1 ⟨R_Wrong.1, R_Wrong.2, R_Wrong.3⟩ tk rfl (hr.mono (by decide)) (by rfl) q_int passes0)) ss_nil)
      (ss_cons (s_if (t_not (t_val (q_callC C_is_measure tk (hr.mono (by decide)) hG (by rfl) (a_cons (p_nm 2).val a_nil) []))) (ss_one (s_raise1 ⟨R_Wrong.1, R_Wrong.2, R_Wrong.3⟩ tk rfl (hr.mono (by decide)) (by rfl) q_int passes0)) ss_nil)
      (ss_cons (s_if (t_not (t_val (q_callC C_are_beds tk (hr.mono (by decide)) hG (by rfl) (a_cons (p_nm 3).val a_nil) []))) (ss_one (s_raise1 ⟨R_Wrong.1, R_Wrong.2, R_Wrong.3⟩ tk rfl (hr.mono (by decide)) (by rfl) q_int passes0)) ss_nil)
      (ss_cons (s_fld 0 KC_Bench (KN_Bench _ (by simp)) (q_tup (a_cons (p_nm 1).val (a_cons (p_nm 2).val a_nil))))
      (ss_cons (s_fld 0 KC_Bench (KN_Bench _ (by simp)) ((q_lc (own := [("bed", 4)]) rfl sc_Bench_init.nd (i_list (p_nm 3).val) (blkOk_by (by rfl)) (fun _ _ _ _ _ => (g_name 4 sc_Bench_init.nd)) (fun _ _ _ _ _ => ts_nil) (fun _ _ _ _ _ => (q_callC C_like_bed takes0 (hr.mono (by decide)) hG (by rfl) (a_cons (p_nm 4).val a_nil) [])))).fz)
      (ss_cons (s_set 5 q_int sc_Bench_init.nd)
      (ss_cons (s_for hp rfl (i_enum (by rfl) B.enumerate (p_nm 3).val) (g_tup (n := 2) rfl (gs_cons (g_name 6 sc_Bench_init.nd) (gs_cons (g_name 4 sc_Bench_init.nd) gs_nil))) (ss_cons (s_set 5 ((q_add (p_nm 5) ((q_ixA (hu65 hr) (p_nm 4) (q_int).p)).p)).fz sc_Bench_init.nd)
      (ss_one (s_if ((w_orM (t_not (t_val (q_callC C_joints_stand tk (hr.mono (by decide)) hG (by rfl) (a_cons (q_ixA (hu65 hr) (p_nm 4) (q_int).p) (a_cons (p_nm 1).val a_nil)) []))) (w_orM (t_not (t_val (q_callC C_joints_stand tk (hr.mono (by decide)) hG (by rfl) (a_cons (q_ixA (hu65 hr) (p_nm 4) (q_int).p) (a_cons (p_nm 2).val a_nil)) []))) (w_or1 (t_gt (p_nm 5) ((q_glob (n := 1000000) (by rfl) B.g_FAR)).p))))).t (ss_one (s_raise1 ⟨R_NoBed.1, R_NoBed.2, R_NoBed.3⟩ tk rfl (hr.mono (by decide)) (by rfl) (p_nm 6).val passes0)) ss_nil))))
      (ss_cons (s_if (t_gt ((q_b1 (cr_sum rfl) g_sum (by rfl) B.sum bt_sum ((q_lc (own := [("bed", 4)]) rfl sc_Bench_init.nd (i_list (p_nm 3).val) (blkOk_by (by rfl)) (fun _ _ _ _ _ => (g_name 4 sc_Bench_init.nd)) (fun _ _ _ _ _ => ts_nil) (fun _ _ _ _ _ => (q_mul ((q_add ((q_b1 c_lenB g_lenB (by rfl) B.len bt_len ((q_ixA (hu65 hr) (p_nm 4) (q_int).p)).p)).p (q_int).p)).p ((q_add ((q_b1 c_lenB g_lenB (by rfl) B.len bt_len ((q_ixA (hu65 hr) (p_nm 4) (q_int).p)).p)).p (q_int).p)).p)))).p)).p ((q_glob (n := 24) (by rfl) B.g_MOST_PIECES)).p) (ss_one (s_raise1 ⟨R_TooMany.1, R_TooMany.2, R_TooMany.3⟩ tk rfl (hr.mono (by decide)) (by rfl) (q_glob (n := 24) (by rfl) B.g_MOST_PIECES) passes0)) ss_nil)
      (ss_cons (s_fld 0 KC_Bench (KN_Bench _ (by simp)) (p_nm 5).val)
      (ss_cons (s_fld 0 KC_Bench (KN_Bench _ (by simp)) ((q_lst a_nil)).fz)
      (ss_cons (s_set 7 q_int sc_Bench_init.nd)
      (ss_one (s_for hp rfl (i_list ((q_fld KC_Bench (KN_Bench _ (by simp)) (p_nm 0))).fz) (g_name 4 sc_Bench_init.nd) (ss_cons (s_fld 0 KC_Bench (KN_Bench _ (by simp)) ((q_add ((q_fld KC_Bench (KN_Bench _ (by simp)) (p_nm 0))).p ((q_callC C_pieces_of tk (hr.mono (by decide)) hG (by rfl) (a_cons (p_nm 1).val (a_cons (p_nm 2).val (a_cons (p_nm 4).val (a_cons (p_nm 7).val a_nil)))) [])).p)).fz)
      (ss_one (s_set 7 ((q_add (p_nm 7) ((q_ixA (hu65 hr) (p_nm 4) (q_int).p)).p)).fz sc_Bench_init.nd)))))))))))))))), fun args Q E hl h => ?_⟩
  clear hl hr hG tk hp W EX H s outer A cdv f Df B KC_Bench KN_Bench R_NoBed R_TooMany R_Wrong C_is_measure C_are_beds C_like_bed C_pieces_of C_joints_stand
  obtain ⟨dl, dw, db, rfl, ⟨⟨n1, k1, g1, l1⟩, ⟨n2, k2, g2, l2⟩, ⟨n3, k3, g3, l3⟩⟩, h⟩ := h
  obtain ⟨w0, w1, w2, w3⟩ := gd_split h (fun ⟨L, W, B, e1, e2, e3, hw, _⟩ => by
    subst e1 e2 e3
    exact ⟨btI.mpr hw.1, btI.mpr hw.2.1, beds_ok hw.2.2⟩)
  clear h
  walk_at "nf"
  refine ⟨dl, rfl, g1.ty, fun z => w0 (by simpa using z) _, fun z => ?_⟩
  have e1 : btB dl 1 1000000 = true := by simpa using z
  refine ⟨dw, rfl, g2.ty, fun z => w1 e1 (by simpa using z) _, fun z => ?_⟩
  have e2 : btB dw 1 1000000 = true := by simpa using z
  refine ⟨db, n3, k3, rfl, g3, l3, fun z => w2 e1 e2 (by simpa using z) _, fun z => ?_⟩
  have e3 : bedsB db = true := by simpa using z
  obtain ⟨L, W, B, rfl, rfl, rfl, hB, hbed, hmany, h⟩ := w3 e1 e2 e3
  clear w0 w1 w2 w3 e1 e2 e3 g1 g2 g3
  walk_at "nf"
  refine ⟨rfl, show (0 : Nat) < 1000 by decide, ?_⟩
  refine .each B bedD rfl bedD (fun j a hj => ⟨fun _ => ⟨a, rfl, all_one hj, rfl⟩, fun z => nomatch z⟩) ?_
  refine ⟨rfl, show (1 : Nat) < 1000 by decide, ?_⟩
  walk_at "nf"
  refine .fr [4, 5, 6] (fun j vs => (∃ x y, vs = [x, some (.fz (.int (topF (B.take j)))), y]) ∧ ∀ i, i < j → badAt L W B i = false) ⟨[_, _, _], rfl, ⟨_, _, rfl⟩, by simp⟩ ?_ ?_
  · rintro j d vs hd ⟨⟨x, y, rfl⟩, hno⟩
    obtain ⟨e, he, rfl⟩ := enumD_get hd
    rw [List.getElem?_map] at he
    obtain ⟨b, hb, rfl⟩ := Option.map_eq_some_iff.mp he
    have hbo := hB.2.2.2 b (List.mem_of_getElem? hb)
    refine ⟨rfl, ?_⟩
    walk_at "nf"
    refine ⟨_, at_int (by decide) rfl, ?_⟩
    have hts := top_snoc hb
    have hbad : badAt L W B j = (!stB L 0 b.xs || (!stB W 0 b.ys || decide ((1000000 : Int) < topF (B.take j) + b.h))) := by
      unfold badAt; rw [hb, hts]
    refine ⟨_, at_int (by decide) rfl, b.xs, L, rfl, (!stB W 0 b.ys || decide ((1000000 : Int) < topF (B.take j) + b.h)), fun _ => ⟨_, at_int (by decide) rfl, b.ys, W, rfl, decide ((1000000 : Int) < topF (B.take j) + b.h), fun _ => ⟨rfl, rfl⟩, rfl, rfl⟩, fun z => ?_, fun z => ?_⟩
    · have hd : duF L W B = .bed j := by
        unfold duF
        rw [find_first hno (by rw [hbad]; exact z) (List.getElem?_eq_some_iff.mp hb).1]
      exact hbed j hd _
    · refine ⟨[_, _, _], rfl, ⟨_, _, by rw [hts]; try exact rfl⟩, fun i hi => ?_⟩
      rcases Nat.lt_or_eq_of_le (Nat.lt_succ_iff.mp hi) with r | r
      · exact hno i r
      · subst r; rw [hbad]; exact z
  rintro vs ⟨⟨x, y, rfl⟩, hno⟩
  have hno : ∀ i, i < B.length → badAt L W B i = false := fun i hi => hno i (by rw [enumD_len, List.length_map]; exact hi)
  rw [enumD_len, List.length_map, List.take_length]
  walk_at "nf"
  refine .each B bedD rfl (fun b => .int (((((b.xs.map D.int).length : Nat) : Int) + 1) * ((((b.ys.map D.int).length : Nat) : Int) + 1))) (fun j a hj => ⟨fun _ => ?_, fun z => nomatch z⟩) ?_
  · have ho := (hB.2.2.2 a (List.mem_of_getElem? hj)).2.2.2.1.1
    exact ⟨_, at_int (by decide) rfl, _, at_int (by decide) rfl, cmulL (by omega) (by rw [List.length_map]; omega), all_one hj, rfl⟩
  have em : (B.map fun b => ((((b.xs.map D.int).length : Nat) : Int) + 1) * ((((b.ys.map D.int).length : Nat) : Int) + 1)).sum = manyF B := by unfold manyF; congr 1; simp
  refine ⟨B.map fun b => ((((b.xs.map D.int).length : Nat) : Int) + 1) * ((((b.ys.map D.int).length : Nat) : Int) + 1), by rw [List.map_map]; rfl, ?_⟩
  rw [em]
  refine ⟨fun z => ?_, fun z => ?_⟩
  · have hd : duF L W B = .many := by
      unfold duF
      rw [find_none hno]
      show (if 24 < manyF B then Du.many else Du.told) = _
      rw [if_pos (of_decide_eq_true z)]
    exact hmany hd _
  have z : ¬ (24 : Int) < manyF B := of_decide_eq_false z
  have hd : duF L W B = .told := by
    unfold duF
    rw [find_none hno]
    show (if 24 < manyF B then Du.many else Du.told) = _
    rw [if_neg z]
  have hB := told_ok hB hno (by omega)
  have h := h hd hB
  have h7 := hB.2.2.2.2.2
  walk_at "nf"
  refine ⟨rfl, show (2 : Nat) < 1000 by decide, ?_⟩
  refine ⟨rfl, show (3 : Nat) < 1000 by decide, ?_⟩
  refine ⟨rfl, _, rfl, ?_⟩
  refine .over B bedD rfl [0, 4, 7] (fun j vs => ∃ x, vs = [some (.ow (.ins (ca "Bench") benK) [.nd .tup [.int L, .int W], bedsD B, .int (topF B), .nd .lst ((pcsF L W (B.take j) 0).map ppD)]), x, some (.fz (.int (topF (B.take j))))]) ⟨[_, _, _], rfl, _, rfl⟩ ?_ ?_
  · rintro j b vs hb ⟨x, rfl⟩
    have hbo := hB.2.2.2.1 b (List.mem_of_getElem? hb)
    have hsn := pcs_snoc (L := L) (W := W) hb
    have hts := top_snoc hb
    have hpl : (pcsF L W (B.take (j + 1)) 0).length ≤ 24 := by
      have e : pcsF L W B 0 = pcsF L W (B.take (j + 1)) 0 ++ pcsF L W (B.drop (j + 1)) (0 + topF (B.take (j + 1))) := by rw [← pcs_app, List.take_append_drop]
      have e2 := pcs_len (L := L) (W := W) (B := B) (z := 0)
      rw [e, List.length_append] at e2
      omega
    refine ⟨rfl, _, rfl, ?_⟩
    refine ⟨L, W, b, _, rfl, hbo.2.2.2.1.2.2, hbo.2.2.2.2.2.2, ?_⟩
    refine ⟨?_, rfl, show (4 : Nat) < 1000 by decide, ?_⟩
    · rw [← List.length_append, ← List.map_append, ← hsn, List.length_map]; exact Nat.le_trans hpl (by decide)
    refine ⟨_, at_int (by decide) rfl, ?_⟩
    exact ⟨[_, _, _], rfl, _, by rw [hsn, hts, List.map_append]; try exact rfl⟩
  · rintro vs ⟨x, rfl⟩
    rw [List.take_length]
    exact h
theorem ok_Bench_piece_kept (Df : DefM K (ca "Bench") "piece_kept" "Bench.piece_kept" s_Bench_piece_kept ["self", "piece"]) (B : Bt mg) (KC_Bench : Cls K (ca "Bench")) (KN_Bench : ∀ x, x ∈ (["kept_beds", "kept_pieces", "long_and_wide", "top"] : List Str) → NoAttr K (ca "Bench") x) (R_NoPiece : BareG1 P w K mg base 1 "NoPiece" (ca "NoPiece") "piece" ["self", "piece"]) (R_Wrong : BareG1 P w K mg base 1 "Wrong" (ca "Wrong") "at" ["self", "at"]) (C_is_whole : Callee P w K mg base 1 "is_whole" ["thing"] [] wholeS) : CalleeM P w K mg base 3 (ca "Bench") "piece_kept" ["self", "piece"] [] (keptX ca) := by
  refine calleeM_of Df sc_Bench_piece_kept (by decide) (by decide) fun f cdv A outer s H EX W hr hG tk hp => ?_
  refine ⟨_, (ss_cons (s_if (t_not (t_val (q_callC C_is_whole tk (hr.mono (by decide)) hG (by rfl) (a_cons (p_nm 1).val a_nil) []))) (ss_one (s_raise1 ⟨R_Wrong.1, R_Wrong.2, R_Wrong.3⟩ tk rfl (hr.mono (by decide)) (by rfl) q_int passes0)) ss_nil)
      (ss_cons (s_if (t_not (t_chain op_le op_le (q_int).p (p_nm 1) ((q_b1 c_lenB g_lenB (by rfl) B.len bt_len ((q_fld KC_Bench (KN_Bench _ (by simp)) (p_nm 0))).p)).p)) (ss_one (s_raise1 ⟨R_NoPiece.1, R_NoPiece.2, R_NoPiece.3⟩ tk rfl (hr.mono (by decide)) (by rfl) (p_nm 1).val passes0)) ss_nil)
      (ss_one (s_ret (q_ixA (hu65 hr) ((q_fld KC_Bench (KN_Bench _ (by simp)) (p_nm 0))).p ((q_sub (p_nm 1) (q_int).p)).p))))), fun args Q E hl h => ?_⟩
  clear hl hr hG tk hp W EX H s outer A cdv f Df B KC_Bench KN_Bench R_NoPiece R_Wrong C_is_whole
  obtain ⟨L, W, B, d, rfl, ht, h⟩ := h
  walk_at "nf"
  refine ⟨d, rfl, ht, fun z => ?_, fun z => ?_⟩
  · have e : whB d = false := by simpa using z
    rcases h with ⟨_, h⟩ | ⟨i, rfl, _⟩
    · exact h
    · cases e
  have e : whB d = true := by simpa using z
  rcases h with ⟨e2, _⟩ | ⟨i, rfl, h⟩
  · rw [e] at e2; cases e2
  walk_at "nf"
  have hl : ((pcsF L W B 0).map ppD).length = (pcsF L W B 0).length := List.length_map ..
  refine ⟨decide (i ≤ ((((pcsF L W B 0).map ppD).length : Nat) : Int)), fun _ => ⟨rfl, _, rfl, rfl, rfl⟩, fun z => ?_, fun z => ?_⟩
  · rcases h with ⟨_, h⟩ | ⟨n, p, rfl, hp, h⟩
    · exact h
    · have hn := (List.getElem?_eq_some_iff.mp hp).1
      have e1 : decide ((1 : Int) ≤ ((n + 1 : Nat) : Int)) = true := by rw [decide_eq_true_eq]; omega
      have e2 : decide (((n + 1 : Nat) : Int) ≤ ((((pcsF L W B 0).map ppD).length : Nat) : Int)) = true := by rw [decide_eq_true_eq, hl]; omega
      exfalso
      have z : (!(decide ((1 : Int) ≤ ((n + 1 : Nat) : Int)) && decide (((n + 1 : Nat) : Int) ≤ ((((pcsF L W B 0).map ppD).length : Nat) : Int)))) = true := z
      rw [e1, e2] at z
      cases z
  · have z : (!(decide ((1 : Int) ≤ i) && decide (i ≤ ((((pcsF L W B 0).map ppD).length : Nat) : Int)))) = false := z
    rw [hl] at z
    simp only [Bool.not_eq_false', Bool.and_eq_true, decide_eq_true_eq] at z
    rcases h with ⟨hb, _⟩ | ⟨n, p, rfl, hp, h⟩
    · omega
    walk_at "nf"
    refine ⟨rfl, _, rfl, ppD p, at_int (by omega) (by rw [show (((n + 1 : Nat) : Int) - 1).toNat = n by omega, List.getElem?_map, hp]; rfl), ?_⟩
    exact h
theorem ok_Bench_box (Df : DefM K (ca "Bench") "box" "Bench.box" s_Bench_box ["self", "piece"]) (KC_Bench : Cls K (ca "Bench")) (KN_Bench : ∀ x, x ∈ (["kept_beds", "kept_pieces", "long_and_wide", "top"] : List Str) → NoAttr K (ca "Bench") x) (C_Bench_piece_kept : CalleeM P w K mg base 3 (ca "Bench") "piece_kept" ["self", "piece"] [] (keptX ca)) : CalleeM P w K mg base 4 (ca "Bench") "box" ["self", "piece"] [] (bboxX ca) := by
  refine calleeM_of Df sc_Bench_box (by decide) (by decide) fun f cdv A outer s H EX W hr hG tk hp => ?_
  refine ⟨_, (ss_one (s_ret (q_ixA (hu65 hr) ((q_meth C_Bench_piece_kept KC_Bench tk (hr.mono (by decide)) hG (p_nm 0).val (a_cons (p_nm 1).val a_nil) [])).p (q_int).p))), fun args Q E hl h => ?_⟩
  clear hl hr hG tk hp W EX H s outer A cdv f Df KC_Bench KN_Bench C_Bench_piece_kept
  obtain ⟨L, W, B, d, rfl, ht, h⟩ := h
  walk_at "nf"
  exact ⟨⟨rfl, rfl⟩, L, W, B, d, rfl, ht, pcIx_imp h (fun x => x) (fun i x => x) fun p x => ⟨_, at_int (by decide) rfl, x⟩⟩
theorem ok_Bench_grain (Df : DefM K (ca "Bench") "grain" "Bench.grain" s_Bench_grain ["self", "piece"]) (KC_Bench : Cls K (ca "Bench")) (KN_Bench : ∀ x, x ∈ (["kept_beds", "kept_pieces", "long_and_wide", "top"] : List Str) → NoAttr K (ca "Bench") x) (C_Bench_piece_kept : CalleeM P w K mg base 3 (ca "Bench") "piece_kept" ["self", "piece"] [] (keptX ca)) : CalleeM P w K mg base 4 (ca "Bench") "grain" ["self", "piece"] [] (grnX ca) := by
  refine calleeM_of Df sc_Bench_grain (by decide) (by decide) fun f cdv A outer s H EX W hr hG tk hp => ?_
  refine ⟨_, (ss_one (s_ret (q_ixA (hu65 hr) ((q_meth C_Bench_piece_kept KC_Bench tk (hr.mono (by decide)) hG (p_nm 0).val (a_cons (p_nm 1).val a_nil) [])).p (q_int).p))), fun args Q E hl h => ?_⟩
  clear hl hr hG tk hp W EX H s outer A cdv f Df KC_Bench KN_Bench C_Bench_piece_kept
  obtain ⟨L, W, B, d, rfl, ht, h⟩ := h
  walk_at "nf"
  exact ⟨⟨rfl, rfl⟩, L, W, B, d, rfl, ht, pcIx_imp h (fun x => x) (fun i x => x) fun p x => ⟨_, at_int (by decide) rfl, x⟩⟩
theorem ok_Bench_heavy (Df : DefM K (ca "Bench") "heavy" "Bench.heavy" s_Bench_heavy ["self", "piece"]) (KC_Bench : Cls K (ca "Bench")) (KN_Bench : ∀ x, x ∈ (["kept_beds", "kept_pieces", "long_and_wide", "top"] : List Str) → NoAttr K (ca "Bench") x) (C_Bench_piece_kept : CalleeM P w K mg base 3 (ca "Bench") "piece_kept" ["self", "piece"] [] (keptX ca)) : CalleeM P w K mg base 4 (ca "Bench") "heavy" ["self", "piece"] [] (hvyX ca) := by
  refine calleeM_of Df sc_Bench_heavy (by decide) (by decide) fun f cdv A outer s H EX W hr hG tk hp => ?_
  refine ⟨_, (ss_one (s_ret (q_ixA (hu65 hr) ((q_meth C_Bench_piece_kept KC_Bench tk (hr.mono (by decide)) hG (p_nm 0).val (a_cons (p_nm 1).val a_nil) [])).p (q_int).p))), fun args Q E hl h => ?_⟩
  clear hl hr hG tk hp W EX H s outer A cdv f Df KC_Bench KN_Bench C_Bench_piece_kept
  obtain ⟨L, W, B, d, rfl, ht, h⟩ := h
  walk_at "nf"
  exact ⟨⟨rfl, rfl⟩, L, W, B, d, rfl, ht, pcIx_imp h (fun x => x) (fun i x => x) fun p x => ⟨_, at_int (by decide) rfl, x⟩⟩
theorem ok_Bench_piece_at (Df : DefM K (ca "Bench") "piece_at" "Bench.piece_at" s_Bench_piece_at ["self", "point"]) (B : Bt mg) (KC_Bench : Cls K (ca "Bench")) (KN_Bench : ∀ x, x ∈ (["kept_beds", "kept_pieces", "long_and_wide", "top"] : List Str) → NoAttr K (ca "Bench") x) (R_Wrong : BareG1 P w K mg base 1 "Wrong" (ca "Wrong") "at" ["self", "at"]) (C_is_point : Callee P w K mg base 4 "is_point" ["thing"] [] pointS) (C_has_point : Callee P w K mg base 5 "has_point" ["box", "point"] [] (hasS noF)) : CalleeM P w K mg base 6 (ca "Bench") "piece_at" ["self", "point"] [] (pieceAtX ca) := by
  refine calleeM_of Df sc_Bench_piece_at (by decide) (by decide) fun f cdv A outer s H EX W hr hG tk hp => ?_
  refine ⟨_, (ss_cons (s_if (t_not (t_val (q_callC C_is_point tk (hr.mono (by decide)) hG (by rfl) (a_cons (p_nm 1).val a_nil) []))) (ss_one (s_raise1 ⟨R_Wrong.1, R_Wrong.2, R_Wrong.3⟩ tk rfl (hr.mono (by decide)) (by rfl) q_int passes0)) ss_nil)
      (ss_cons (s_for hp rfl (i_enum (by rfl) B.enumerate ((q_fld KC_Bench (KN_Bench _ (by simp)) (p_nm 0))).fz) (g_tup (n := 2) rfl (gs_cons (g_name 2 sc_Bench_piece_at.nd) (gs_cons (g_name 3 sc_Bench_piece_at.nd) gs_nil))) (ss_one (s_if (t_val (q_callC C_has_point tk (hr.mono (by decide)) hG (by rfl) (a_cons (q_ixA (hu65 hr) (p_nm 3) (q_int).p) (a_cons (p_nm 1).val a_nil)) [])) (ss_one (s_ret (q_add (p_nm 2) (q_int).p))) ss_nil)))
      (ss_one (s_ret q_non)))), fun args Q E hl h => ?_⟩
  clear hl hr hG tk hp W EX H s outer A cdv f Df B KC_Bench KN_Bench R_Wrong C_is_point C_has_point
  obtain ⟨L, W, B, d, rfl, hB, ht, h⟩ := h
  walk_at "nf"
  refine ⟨d, rfl, ht, fun z => ?_, fun z => ?_⟩
  · have e : ptB d = false := by simpa using z
    rcases h with ⟨_, h⟩ | ⟨e2, _⟩
    · exact h
    · rw [e] at e2; cases e2
  have e : ptB d = true := by simpa using z
  rcases h with ⟨e2, _⟩ | ⟨_, h⟩
  · rw [e] at e2; cases e2
  obtain ⟨x1, x2, x3, rfl⟩ := pt_ex e
  walk_at "nf"
  refine ⟨rfl, _, rfl, ?_⟩
  refine .fr [2, 3] (fun j vs => ∃ x y, vs = [x, y]) ⟨[_, _], rfl, _, _, rfl⟩ ?_ ?_
  · rintro j d vs hd ⟨x, y, rfl⟩
    obtain ⟨e', he, rfl⟩ := enumD_get hd
    rw [List.getElem?_map] at he
    obtain ⟨p, hp, rfl⟩ := Option.map_eq_some_iff.mp he
    refine ⟨rfl, ?_⟩
    walk_at "nf"
    have hb := pc_bx hB (List.mem_of_getElem? hp)
    refine ⟨_, at_int (by decide) rfl, bxD ⟨p.x, p.y, p.z, p.a, p.b, p.c⟩, pt3 x1 x2 x3, rfl, rfl, rfl, fun n hn => ?_, fun b q1 q2 q3 hbk _ eb ep => ?_⟩
    · rw [bx_ok hb, e] at hn; cases hn
    · refine ⟨fun z => ?_, fun z => ⟨[_, _], rfl, _, _, rfl⟩⟩
      exact h _
  · rintro vs ⟨x, y, rfl⟩
    exact h _
theorem ok_sort (Df : DefAt K mg "_law_sort" s_sort ["_law_e"]) (B : Bt mg) (T : Xt K mg ca nsL tsL csL fsL isaL) : CalleeP P w K mg base 1 "_law_sort" ["_law_e"] (lsortX ca) := by
  refine calleeP_of Df sc_sort fun f cdv A outer s H p C d hr hG hP => ?_
  refine ⟨_, (ss_cons (s_set 1 ((q_lst (a_cons (q_isP T hP (by simp [tsL]) (by rfl) B.isinstance (by rfl) (p_nm 0)) (a_cons (q_isP T hP (by simp [tsL]) (by rfl) B.isinstance (by rfl) (p_nm 0)) (a_cons (q_isP T hP (by simp [tsL]) (by rfl) B.isinstance (by rfl) (p_nm 0)) (a_cons (q_isP T hP (by simp [tsL]) (by rfl) B.isinstance (by rfl) (p_nm 0)) a_nil)))))).fz sc_sort.nd)
      (ss_cons (s_if ((w_orM (t_ne (hu65H hr) ((q_count (p_nm 1) (q_bl).p)).p (q_int).p) (w_or1 (t_not (t_val (q_isV T hP (by rfl) B.isinstance (by rfl) B.ValueError (p_nm 0))))))).t (ss_one (s_ret (q_tup (a_cons q_str a_nil)))) ss_nil)
      (ss_cons (s_if (t_val (q_ixA (hu65H hr) (p_nm 1) (q_int).p)) (ss_one (s_ret (q_tup (a_cons q_str (a_cons ((q_xf T hP (by simp [fsL]) (p_nm 0))).fz a_nil))))) ss_nil)
      (ss_cons (s_if (t_val (q_ixA (hu65H hr) (p_nm 1) (q_int).p)) (ss_one (s_ret (q_tup (a_cons q_str (a_cons ((q_xf T hP (by simp [fsL]) (p_nm 0))).fz a_nil))))) ss_nil)
      (ss_cons (s_if (t_val (q_ixA (hu65H hr) (p_nm 1) (q_int).p)) (ss_one (s_ret (q_tup (a_cons q_str (a_cons ((q_xf T hP (by simp [fsL]) (p_nm 0))).fz a_nil))))) ss_nil)
      (ss_one (s_ret (q_tup (a_cons q_str (a_cons ((q_xf T hP (by simp [fsL]) (p_nm 0))).fz a_nil)))))))))), fun ds Q ks es hl h0 h => ?_⟩
  clear hl hr hG hP s outer A cdv f Df B T
  obtain ⟨a, dd, hd, h⟩ := h
  rcases h with ⟨n, rfl, h⟩ | ⟨n, rfl, h⟩ | ⟨rfl, h⟩ | ⟨n, rfl, h⟩
  · cases h0
    walk_at "nf"
    refine ⟨rfl, rfl, rfl, "Wrong", rfl, by simp [nsL], ?_⟩
    refine ⟨rfl, rfl, rfl, "Wrong", rfl, by simp [nsL], ?_⟩
    refine ⟨rfl, rfl, rfl, "Wrong", rfl, by simp [nsL], ?_⟩
    refine ⟨rfl, rfl, rfl, "Wrong", rfl, by simp [nsL], ?_⟩
    walk_at "nf"
    refine ⟨by decide +kernel, .inl rfl, false, fun _ => ⟨rfl, rfl, rfl, "Wrong", rfl, by simp [nsL], rfl, rfl⟩, fun z => absurd z (by decide +kernel), fun _ => ?_⟩
    walk_at "nf"
    refine ⟨_, at_int (by decide) rfl, fun _ => ?_, fun z => nomatch z⟩
    exact ⟨rfl, rfl, rfl, "Wrong", rfl, by simp [nsL], _, rfl, hd, h⟩
  · cases h0
    walk_at "nf"
    refine ⟨rfl, rfl, rfl, "NoBed", rfl, by simp [nsL], ?_⟩
    refine ⟨rfl, rfl, rfl, "NoBed", rfl, by simp [nsL], ?_⟩
    refine ⟨rfl, rfl, rfl, "NoBed", rfl, by simp [nsL], ?_⟩
    refine ⟨rfl, rfl, rfl, "NoBed", rfl, by simp [nsL], ?_⟩
    walk_at "nf"
    refine ⟨by decide +kernel, .inl rfl, false, fun _ => ⟨rfl, rfl, rfl, "NoBed", rfl, by simp [nsL], rfl, rfl⟩, fun z => absurd z (by decide +kernel), fun _ => ?_⟩
    walk_at "nf"
    refine ⟨_, at_int (by decide) rfl, fun z => (nomatch z), fun _ => ?_⟩
    walk_at "nf"
    refine ⟨_, at_int (by decide) rfl, fun _ => ?_, fun z => nomatch z⟩
    exact ⟨rfl, rfl, rfl, "NoBed", rfl, by simp [nsL], _, rfl, hd, h⟩
  · cases h0
    walk_at "nf"
    refine ⟨rfl, rfl, rfl, "TooMany", rfl, by simp [nsL], ?_⟩
    refine ⟨rfl, rfl, rfl, "TooMany", rfl, by simp [nsL], ?_⟩
    refine ⟨rfl, rfl, rfl, "TooMany", rfl, by simp [nsL], ?_⟩
    refine ⟨rfl, rfl, rfl, "TooMany", rfl, by simp [nsL], ?_⟩
    walk_at "nf"
    refine ⟨by decide +kernel, .inl rfl, false, fun _ => ⟨rfl, rfl, rfl, "TooMany", rfl, by simp [nsL], rfl, rfl⟩, fun z => absurd z (by decide +kernel), fun _ => ?_⟩
    walk_at "nf"
    refine ⟨_, at_int (by decide) rfl, fun z => (nomatch z), fun _ => ?_⟩
    walk_at "nf"
    refine ⟨_, at_int (by decide) rfl, fun z => (nomatch z), fun _ => ?_⟩
    walk_at "nf"
    refine ⟨_, at_int (by decide) rfl, fun _ => ?_, fun z => nomatch z⟩
    exact ⟨rfl, rfl, rfl, "TooMany", rfl, by simp [nsL], _, rfl, hd, h⟩
  · cases h0
    walk_at "nf"
    refine ⟨rfl, rfl, rfl, "NoPiece", rfl, by simp [nsL], ?_⟩
    refine ⟨rfl, rfl, rfl, "NoPiece", rfl, by simp [nsL], ?_⟩
    refine ⟨rfl, rfl, rfl, "NoPiece", rfl, by simp [nsL], ?_⟩
    refine ⟨rfl, rfl, rfl, "NoPiece", rfl, by simp [nsL], ?_⟩
    walk_at "nf"
    refine ⟨by decide +kernel, .inl rfl, false, fun _ => ⟨rfl, rfl, rfl, "NoPiece", rfl, by simp [nsL], rfl, rfl⟩, fun z => absurd z (by decide +kernel), fun _ => ?_⟩
    walk_at "nf"
    refine ⟨_, at_int (by decide) rfl, fun z => (nomatch z), fun _ => ?_⟩
    walk_at "nf"
    refine ⟨_, at_int (by decide) rfl, fun z => (nomatch z), fun _ => ?_⟩
    walk_at "nf"
    refine ⟨_, at_int (by decide) rfl, fun z => (nomatch z), fun _ => ?_⟩
    exact ⟨rfl, rfl, rfl, "NoPiece", rfl, by simp [nsL], _, rfl, hd, h⟩
theorem ok_made (Df : DefAt K mg "_law_made" s_made ["_law_length", "_law_width", "_law_beds"]) (T : Xt K mg ca nsL tsL csL fsL isaL) (C_Bench_init : CalleeK P w K mg base 7 "Bench" (ca "Bench") ["self", "length", "width", "beds"] (initX ca)) (C_sort : CalleeP P w K mg base 1 "_law_sort" ["_law_e"] (lsortX ca)) : Callee P w K mg base 9 "_law_made" ["_law_length", "_law_width", "_law_beds"] [] lmadeX := by
  refine callee_of Df sc_made (by decide) (by decide) fun f cdv A outer s H EX W hr hG tk hp => ?_
  refine ⟨_, (ss_cons (s_tryAs 3 T (by simp [csL]) (by rfl) tk sc_made.nd
      (fun W1 pn xe tk hp => (ss_one (s_expr (q_make C_Bench_init tk (hr.mono (by decide)) hG (by rfl) (a_cons (p_nm 0).val (a_cons (p_nm 1).val (a_cons (p_nm 2).val a_nil)))))))
      (fun a C d pn hP => (ss_one (s_ret (q_callP C_sort hP (roomS hr (by decide)) hG (by rfl) (a_cons (p_nm 3).val a_nil))))))
      (ss_one (s_ret (q_tup (a_cons q_str a_nil))))), fun args Q E hl h => ?_⟩
  clear hl hr hG tk hp W EX H s outer A cdv f Df T C_Bench_init C_sort
  obtain ⟨dl, dw, db, rfl, hg, h⟩ := h
  walk_at "nf"
  refine ⟨dl, dw, db, rfl, hg, ?_⟩
  rcases h with ⟨n, hn, h⟩ | ⟨L, W, B, rfl, rfl, rfl, hB, h⟩
  · refine .inl ⟨n, hn, fun o => ?_⟩
    refine ⟨"Wrong", rfl, by simp [nsL], fun _ x d1 hd1 => ?_, fun z => by simp [isaL] at z⟩
    walk_at "nf"
    refine ⟨⟨rfl, rfl, rfl⟩, x, d1, (by rcases hd1 with z | z; exact z; exact absurd z.1 (by simp)), .inl ⟨_, rfl, ?_⟩⟩
    exact h
  · refine .inr ⟨L, W, B, rfl, rfl, rfl, hB, fun k hk o => ?_, fun hk o => ?_, fun hk hb => ?_⟩
    · rw [hk] at h
      refine ⟨"NoBed", rfl, by simp [nsL], fun _ x d1 hd1 => ?_, fun z => by simp [isaL] at z⟩
      walk_at "nf"
      refine ⟨⟨rfl, rfl, rfl⟩, x, d1, (by rcases hd1 with z | z; exact z; exact absurd z.1 (by simp)), .inr (.inl ⟨_, rfl, ?_⟩)⟩
      exact h
    · rw [hk] at h
      refine ⟨"TooMany", rfl, by simp [nsL], fun _ x d1 hd1 => ?_, fun z => by simp [isaL] at z⟩
      walk_at "nf"
      refine ⟨⟨rfl, rfl, rfl⟩, x, d1, (by rcases hd1 with z | z; exact z; exact absurd z.1 (by simp)), .inr (.inr (.inl ⟨rfl, ?_⟩))⟩
      exact h
    · rw [hk] at h
      exact ⟨rfl, _, rfl, h⟩
theorem ok_asked (Df : DefAt K mg "_law_asked" s_asked ["_law_bench_here", "_law_word", "_law_thing"]) (T : Xt K mg ca nsL tsL csL fsL isaL) (KC_Bench : Cls K (ca "Bench")) (KN_Bench : ∀ x, x ∈ (["kept_beds", "kept_pieces", "long_and_wide", "top"] : List Str) → NoAttr K (ca "Bench") x) (C_Bench_piece_at : CalleeM P w K mg base 6 (ca "Bench") "piece_at" ["self", "point"] [] (pieceAtX ca)) (C_sort : CalleeP P w K mg base 1 "_law_sort" ["_law_e"] (lsortX ca)) (C_Bench_box : CalleeM P w K mg base 4 (ca "Bench") "box" ["self", "piece"] [] (bboxX ca)) (C_Bench_grain : CalleeM P w K mg base 4 (ca "Bench") "grain" ["self", "piece"] [] (grnX ca)) (C_Bench_heavy : CalleeM P w K mg base 4 (ca "Bench") "heavy" ["self", "piece"] [] (hvyX ca)) : Callee P w K mg base 7 "_law_asked" ["_law_bench_here", "_law_word", "_law_thing"] [] (askedX ca) := by
  refine callee_of Df sc_asked (by decide) (by decide) fun f cdv A outer s H EX W hr hG tk hp => ?_
  refine ⟨_, (ss_one (s_tryAs 3 T (by simp [csL]) (by rfl) tk sc_asked.nd
      (fun W1 pn xe tk hp => (ss_cons (s_if (t_eq (hu65 hr) (p_nm 1) (q_str).p) (ss_one (s_ret (q_tup (a_cons q_str (a_cons (q_meth C_Bench_box KC_Bench tk (hr.mono (by decide)) hG (p_nm 0).val (a_cons (p_nm 2).val a_nil) []) a_nil))))) ss_nil)
      (ss_cons (s_if (t_eq (hu65 hr) (p_nm 1) (q_str).p) (ss_one (s_ret (q_tup (a_cons q_str (a_cons (q_meth C_Bench_grain KC_Bench tk (hr.mono (by decide)) hG (p_nm 0).val (a_cons (p_nm 2).val a_nil) []) a_nil))))) ss_nil)
      (ss_cons (s_if (t_eq (hu65 hr) (p_nm 1) (q_str).p) (ss_one (s_ret (q_tup (a_cons q_str (a_cons (q_meth C_Bench_heavy KC_Bench tk (hr.mono (by decide)) hG (p_nm 0).val (a_cons (p_nm 2).val a_nil) []) a_nil))))) ss_nil)
      (ss_one (s_ret (q_tup (a_cons q_str (a_cons (q_meth C_Bench_piece_at KC_Bench tk (hr.mono (by decide)) hG (p_nm 0).val (a_cons (p_nm 2).val a_nil) []) a_nil)))))))))
      (fun a C d pn hP => (ss_one (s_ret (q_callP C_sort hP (roomS hr (by decide)) hG (by rfl) (a_cons (p_nm 3).val a_nil))))))), fun args Q E hl h => ?_⟩
  clear hl hr hG tk hp W EX H s outer A cdv f Df T KC_Bench KN_Bench C_Bench_piece_at C_sort C_Bench_box C_Bench_grain C_Bench_heavy
  obtain ⟨L, W, B, w, d, rfl, hB, ht, h⟩ := h
  walk_at "nf"
  have hty : tyD d = true := by unfold tyA at ht; exact (Bool.and_eq_true_iff.mp ht).1
  rcases h with ⟨rfl | rfl | rfl, h⟩ | ⟨rfl, hp, h⟩
  · refine ⟨.inl rfl, fun _ => ?_, fun z => absurd z (by decide +kernel)⟩
    walk_at "nf"
    refine ⟨⟨rfl, rfl⟩, L, W, B, d, rfl, hty, ?_⟩
    rcases h with ⟨e, h⟩ | ⟨i, rfl, hi, h⟩
    · refine .inl ⟨e, ?_⟩
      · refine ⟨"Wrong", rfl, by simp [nsL], fun _ x d1 hd1 => ?_, fun z => by simp [isaL] at z⟩
        walk_at "nf"
        refine ⟨⟨rfl, rfl, rfl⟩, x, d1, (by rcases hd1 with z | z; exact z; exact absurd z.1 (by simp)), .inl ⟨_, rfl, ?_⟩⟩
        exact h
    · refine .inr ⟨i, rfl, .inl ⟨hi, ?_⟩⟩
      · refine ⟨"NoPiece", rfl, by simp [nsL], fun _ x d1 hd1 => ?_, fun z => by simp [isaL] at z⟩
        walk_at "nf"
        refine ⟨⟨rfl, rfl, rfl⟩, x, d1, (by rcases hd1 with z | z; exact z; exact absurd z.1 (by simp)), .inr (.inr (.inr ⟨_, rfl, ?_⟩))⟩
        exact h
  · refine ⟨.inl rfl, fun z => absurd z (by decide +kernel), fun _ => ?_⟩
    walk_at "nf"
    refine ⟨.inl rfl, fun _ => ?_, fun z => absurd z (by decide +kernel)⟩
    walk_at "nf"
    refine ⟨⟨rfl, rfl⟩, L, W, B, d, rfl, hty, ?_⟩
    rcases h with ⟨e, h⟩ | ⟨i, rfl, hi, h⟩
    · refine .inl ⟨e, ?_⟩
      · refine ⟨"Wrong", rfl, by simp [nsL], fun _ x d1 hd1 => ?_, fun z => by simp [isaL] at z⟩
        walk_at "nf"
        refine ⟨⟨rfl, rfl, rfl⟩, x, d1, (by rcases hd1 with z | z; exact z; exact absurd z.1 (by simp)), .inl ⟨_, rfl, ?_⟩⟩
        exact h
    · refine .inr ⟨i, rfl, .inl ⟨hi, ?_⟩⟩
      · refine ⟨"NoPiece", rfl, by simp [nsL], fun _ x d1 hd1 => ?_, fun z => by simp [isaL] at z⟩
        walk_at "nf"
        refine ⟨⟨rfl, rfl, rfl⟩, x, d1, (by rcases hd1 with z | z; exact z; exact absurd z.1 (by simp)), .inr (.inr (.inr ⟨_, rfl, ?_⟩))⟩
        exact h
  · refine ⟨.inl rfl, fun z => absurd z (by decide +kernel), fun _ => ?_⟩
    walk_at "nf"
    refine ⟨.inl rfl, fun z => absurd z (by decide +kernel), fun _ => ?_⟩
    walk_at "nf"
    refine ⟨.inl rfl, fun _ => ?_, fun z => absurd z (by decide +kernel)⟩
    walk_at "nf"
    refine ⟨⟨rfl, rfl⟩, L, W, B, d, rfl, hty, ?_⟩
    rcases h with ⟨e, h⟩ | ⟨i, rfl, hi, h⟩
    · refine .inl ⟨e, ?_⟩
      · refine ⟨"Wrong", rfl, by simp [nsL], fun _ x d1 hd1 => ?_, fun z => by simp [isaL] at z⟩
        walk_at "nf"
        refine ⟨⟨rfl, rfl, rfl⟩, x, d1, (by rcases hd1 with z | z; exact z; exact absurd z.1 (by simp)), .inl ⟨_, rfl, ?_⟩⟩
        exact h
    · refine .inr ⟨i, rfl, .inl ⟨hi, ?_⟩⟩
      · refine ⟨"NoPiece", rfl, by simp [nsL], fun _ x d1 hd1 => ?_, fun z => by simp [isaL] at z⟩
        walk_at "nf"
        refine ⟨⟨rfl, rfl, rfl⟩, x, d1, (by rcases hd1 with z | z; exact z; exact absurd z.1 (by simp)), .inr (.inr (.inr ⟨_, rfl, ?_⟩))⟩
        exact h
  · refine ⟨.inl rfl, fun z => absurd z (by decide +kernel), fun _ => ?_⟩
    walk_at "nf"
    refine ⟨.inl rfl, fun z => absurd z (by decide +kernel), fun _ => ?_⟩
    walk_at "nf"
    refine ⟨.inl rfl, fun z => absurd z (by decide +kernel), fun _ => ?_⟩
    walk_at "nf"
    walk_at "nf"
    refine ⟨⟨rfl, rfl⟩, L, W, B, d, rfl, hB, ht, .inl ⟨hp, ?_⟩⟩
    · refine ⟨"Wrong", rfl, by simp [nsL], fun _ x d1 hd1 => ?_, fun z => by simp [isaL] at z⟩
      walk_at "nf"
      refine ⟨⟨rfl, rfl, rfl⟩, x, d1, (by rcases hd1 with z | z; exact z; exact absurd z.1 (by simp)), .inl ⟨_, rfl, ?_⟩⟩
      exact h

theorem ok_due (Df : DefAt K mg "_law_due" s_due ["_law_length", "_law_width", "_law_beds"]) (B : Bt mg) : Callee P w K mg base 1 "_law_due" ["_law_length", "_law_width", "_law_beds"] [] ldueX := by
  refine callee_of Df sc_due (by decide) (by decide) fun f cdv A outer s H EX W hr hG tk hp => ?_
  refine ⟨_, (ss_cons (s_set 3 q_int sc_due.nd)
      (ss_cons (s_for hp rfl (i_enum (by rfl) B.enumerate (p_nm 2).val) (g_tup (n := 2) rfl (gs_cons (g_name 4 sc_due.nd) (gs_cons (g_name 5 sc_due.nd) gs_nil))) (ss_cons (s_set 3 ((q_add (p_nm 3) ((q_ixA (hu65 hr) (p_nm 5) (q_int).p)).p)).fz sc_due.nd)
      (ss_cons (s_for hp rfl (i_list ((q_lst (a_cons (q_tup (a_cons (q_ixA (hu65 hr) (p_nm 5) (q_int).p) (a_cons (p_nm 0).val a_nil))) (a_cons (q_tup (a_cons (q_ixA (hu65 hr) (p_nm 5) (q_int).p) (a_cons (p_nm 1).val a_nil))) a_nil)))).fz) (g_tup (n := 2) rfl (gs_cons (g_name 6 sc_due.nd) (gs_cons (g_name 7 sc_due.nd) gs_nil))) (ss_cons (s_set 8 ((q_add ((q_add ((q_lst (a_cons q_int a_nil))).p (p_nm 6))).p ((q_lst (a_cons (p_nm 7).val a_nil))).p)).fz sc_due.nd)
      (ss_one (s_if (t_val (q_b1 (cr_any rfl) g_any (by rfl) B.any bt_any ((q_lc (own := [("_law_k", 9)]) rfl sc_due.nd (i_rng (by rfl) B.range (q_sub ((q_b1 c_lenB g_lenB (by rfl) B.len bt_len (p_nm 8))).p (q_int).p)) (blkOk_by (by rfl)) (fun _ _ _ _ _ => (g_name 9 sc_due.nd)) (fun _ _ _ _ _ => ts_nil) (fun _ _ _ _ _ => (q_ge ((q_ixA (hu65 hr) (p_nm 8) (p_nm 9))).p ((q_ixA (hu65 hr) (p_nm 8) ((q_add (p_nm 9) (q_int).p)).p)).p)))).p)) (ss_one (s_ret (q_tup (a_cons q_str (a_cons (p_nm 4).val a_nil))))) ss_nil))))
      (ss_one (s_if (t_gt (p_nm 3) (q_int).p) (ss_one (s_ret (q_tup (a_cons q_str (a_cons (p_nm 4).val a_nil))))) ss_nil)))))
      (ss_cons (s_if (t_gt ((q_b1 (cr_sum rfl) g_sum (by rfl) B.sum bt_sum ((q_lc (own := [("_law_bed_here", 5)]) rfl sc_due.nd (i_list (p_nm 2).val) (blkOk_by (by rfl)) (fun _ _ _ _ _ => (g_name 5 sc_due.nd)) (fun _ _ _ _ _ => ts_nil) (fun _ _ _ _ _ => (q_mul ((q_add ((q_b1 c_lenB g_lenB (by rfl) B.len bt_len ((q_ixA (hu65 hr) (p_nm 5) (q_int).p)).p)).p (q_int).p)).p ((q_add ((q_b1 c_lenB g_lenB (by rfl) B.len bt_len ((q_ixA (hu65 hr) (p_nm 5) (q_int).p)).p)).p (q_int).p)).p)))).p)).p (q_int).p) (ss_one (s_ret (q_tup (a_cons q_str (a_cons q_int a_nil))))) ss_nil)
      (ss_one (s_ret (q_tup (a_cons q_str a_nil))))))), fun args Q E hl h => ?_⟩
  clear hl hr hG tk hp W EX H s outer A cdv f Df B
  obtain ⟨L, W, B, rfl, hB, h⟩ := h
  walk_at "nf"
  refine .fr [3, 4, 5, 6, 7, 8, 9] (fun j vs => ∃ a b c d e f, vs = [some (.fz (.int (topF (B.take j)))), a, b, c, d, e, f] ∧ ∀ i, i < j → badAt L W B i = false) ⟨[_, _, _, _, _, _, _], rfl, _, _, _, _, _, _, rfl, by simp⟩ ?_ ?_
  · rintro j d vs hd ⟨x1, x2, x3, x4, x5, x6, rfl, hno⟩
    obtain ⟨e, he, rfl⟩ := enumD_get hd
    rw [List.getElem?_map] at he
    obtain ⟨b, hb, rfl⟩ := Option.map_eq_some_iff.mp he
    have hbo := hB.2.2.2 b (List.mem_of_getElem? hb)
    have hts := top_snoc hb
    have hbad : badAt L W B j = (!stB L 0 b.xs || (!stB W 0 b.ys || decide ((1000000 : Int) < topF (B.take j) + b.h))) := by
      unfold badAt; rw [hb, hts]
    have hdu : badAt L W B j = true → duF L W B = .bed j := fun z => by
      unfold duF
      rw [find_first hno z (List.getElem?_eq_some_iff.mp hb).1]
    refine ⟨rfl, ?_⟩
    walk_at "nf"
    refine ⟨_, at_int (by decide) rfl, ?_⟩
    walk_at "nf"
    refine ⟨_, at_int (by decide) rfl, _, at_int (by decide) rfl, ?_⟩
    refine .fr [6, 7, 8, 9] (fun i vs => ∃ a b1 c d, vs = [a, b1, c, d] ∧ (1 ≤ i → stB L 0 b.xs = true) ∧ (2 ≤ i → stB W 0 b.ys = true)) ⟨[_, _, _, _], rfl, _, _, _, _, rfl, by omega, by omega⟩ ?_ ?_
    · rintro i d vs hd ⟨a1, a2, a3, a4, rfl, k1, k2⟩
      have hi : i = 0 ∨ i = 1 := by
        have := (List.getElem?_eq_some_iff.mp hd).1
        have : i < 2 := this
        omega
      rcases hi with rfl | rfl
      · cases hd
        refine ⟨rfl, ?_⟩
        walk_at "nf"
        have hsl : b.xs.length ≤ 23 := hbo.2.2.2.1.1
        refine ⟨by simp; exact Nat.le_trans (show 1 + b.xs.length ≤ 24 by omega) (by decide), ?_⟩
        refine ⟨by simp; exact Nat.le_trans (show b.xs.length + 1 + 1 ≤ 25 by omega) (by decide), ?_⟩
        walk_at "nf"
        have hel : (([D.int 0] : List D) ++ b.xs.map D.int ++ [D.int L]).length = b.xs.length + 2 := by simp
        refine ⟨szI (by simp; omega), by simp; omega, ?_⟩
        rw [show ((((([D.int 0] : List D) ++ b.xs.map D.int ++ [D.int L]).length : Nat) : Int) - 1).toNat = b.xs.length + 1 by simp]
        refine .each (List.range (b.xs.length + 1)) (fun k => .int (k : Nat)) rng0 (fun k => .bl (decide ((edF b.xs L).getD k 0 ≥ (edF b.xs L).getD (k + 1) 0))) (fun j k hj => ⟨fun _ => ?_, fun z => nomatch z⟩) ?_
        · have hk := List.mem_range.mp (List.mem_of_getElem? hj)
          refine ⟨_, at_of (ed_at (show k < b.xs.length + 2 by omega)), .int ((edF b.xs L).getD (k + 1) 0), at_int (by omega) (by rw [show ((k : Int) + 1).toNat = k + 1 by omega]; exact ed_at (by omega)), ?_⟩
          exact ⟨all_one hj, rfl⟩
        refine ⟨(List.range (b.xs.length + 1)).map fun k => decide ((edF b.xs L).getD k 0 ≥ (edF b.xs L).getD (k + 1) 0), by rw [List.map_map]; rfl, ?_⟩
        have hst : (((List.range (b.xs.length + 1)).map fun k => decide ((edF b.xs L).getD k 0 ≥ (edF b.xs L).getD (k + 1) 0)).any id) = !stB L 0 b.xs := by
          have q := chk_any (l := edF b.xs L)
          rw [show (edF b.xs L).length - 1 = b.xs.length + 1 by simp [edF]] at q
          rw [List.any_map]
          refine q.trans ?_
          have q2 := chk_st (e := L) (xs := b.xs) (l := 0)
          have q3 : edF b.xs L = 0 :: b.xs ++ [L] := by simp [edF]
          rw [q3, q2, decide_eq_true (show (0 : Int) < L by have := hB.1; unfold M6 at this; omega), Bool.true_and]
        rw [hst]
        refine ⟨fun z => ?_, fun z => ?_⟩
        · have hd := hdu (by rw [hbad]; rw [z]; rfl)
          rw [hd] at h
          exact h
        · exact ⟨[_, _, _, _], rfl, _, _, _, _, rfl, fun _ => by simpa using z, by omega⟩
      · cases hd
        refine ⟨rfl, ?_⟩
        walk_at "nf"
        have hsl : b.ys.length ≤ 23 := hbo.2.2.2.2.1
        refine ⟨by simp; exact Nat.le_trans (show 1 + b.ys.length ≤ 24 by omega) (by decide), ?_⟩
        refine ⟨by simp; exact Nat.le_trans (show b.ys.length + 1 + 1 ≤ 25 by omega) (by decide), ?_⟩
        walk_at "nf"
        have hel : (([D.int 0] : List D) ++ b.ys.map D.int ++ [D.int W]).length = b.ys.length + 2 := by simp
        refine ⟨szI (by simp; omega), by simp; omega, ?_⟩
        rw [show ((((([D.int 0] : List D) ++ b.ys.map D.int ++ [D.int W]).length : Nat) : Int) - 1).toNat = b.ys.length + 1 by simp]
        refine .each (List.range (b.ys.length + 1)) (fun k => .int (k : Nat)) rng0 (fun k => .bl (decide ((edF b.ys W).getD k 0 ≥ (edF b.ys W).getD (k + 1) 0))) (fun j k hj => ⟨fun _ => ?_, fun z => nomatch z⟩) ?_
        · have hk := List.mem_range.mp (List.mem_of_getElem? hj)
          refine ⟨_, at_of (ed_at (show k < b.ys.length + 2 by omega)), .int ((edF b.ys W).getD (k + 1) 0), at_int (by omega) (by rw [show ((k : Int) + 1).toNat = k + 1 by omega]; exact ed_at (by omega)), ?_⟩
          exact ⟨all_one hj, rfl⟩
        refine ⟨(List.range (b.ys.length + 1)).map fun k => decide ((edF b.ys W).getD k 0 ≥ (edF b.ys W).getD (k + 1) 0), by rw [List.map_map]; rfl, ?_⟩
        have hst : (((List.range (b.ys.length + 1)).map fun k => decide ((edF b.ys W).getD k 0 ≥ (edF b.ys W).getD (k + 1) 0)).any id) = !stB W 0 b.ys := by
          have q := chk_any (l := edF b.ys W)
          rw [show (edF b.ys W).length - 1 = b.ys.length + 1 by simp [edF]] at q
          rw [List.any_map]
          refine q.trans ?_
          have q2 := chk_st (e := W) (xs := b.ys) (l := 0)
          have q3 : edF b.ys W = 0 :: b.ys ++ [W] := by simp [edF]
          rw [q3, q2, decide_eq_true (show (0 : Int) < W by have := hB.2.1; unfold M6 at this; omega), Bool.true_and]
        rw [hst]
        refine ⟨fun z => ?_, fun z => ?_⟩
        · have hd := hdu (by rw [hbad, k1 (by decide)]; rw [z]; rfl)
          rw [hd] at h
          exact h
        · exact ⟨[_, _, _, _], rfl, _, _, _, _, rfl, fun _ => k1 (by decide), fun _ => by simpa using z⟩
    · rintro vs ⟨a1, a2, a3, a4, rfl, k1, k2⟩
      have k1 := k1 (show 1 ≤ 2 by decide)
      have k2 := k2 (show 2 ≤ 2 by decide)
      walk_at "nf"
      refine ⟨fun z => ?_, fun z => ?_⟩
      · have hd := hdu (by rw [hbad, k1, k2]; exact z)
        rw [hd] at h
        exact h
      · refine ⟨[_, _, _, _, _, _, _], rfl, _, _, _, _, _, _, by rw [hts]; try exact rfl, fun i hi => ?_⟩
        rcases Nat.lt_or_eq_of_le (Nat.lt_succ_iff.mp hi) with r | r
        · exact hno i r
        · subst r; rw [hbad, k1, k2]; exact z
  · rintro vs ⟨x1, x2, x3, x4, x5, x6, rfl, hno⟩
    have hno : ∀ i, i < B.length → badAt L W B i = false := fun i hi => hno i (by rw [enumD_len, List.length_map]; exact hi)
    walk_at "nf"
    refine .each B bedD rfl (fun b => .int (((((b.xs.map D.int).length : Nat) : Int) + 1) * ((((b.ys.map D.int).length : Nat) : Int) + 1))) (fun j a hj => ⟨fun _ => ?_, fun z => nomatch z⟩) ?_
    · have ho := (hB.2.2.2 a (List.mem_of_getElem? hj)).2.2.2.1.1
      exact ⟨_, at_int (by decide) rfl, _, at_int (by decide) rfl, cmulL (by omega) (by rw [List.length_map]; omega), all_one hj, rfl⟩
    have em : (B.map fun b => ((((b.xs.map D.int).length : Nat) : Int) + 1) * ((((b.ys.map D.int).length : Nat) : Int) + 1)).sum = manyF B := by unfold manyF; congr 1; simp
    refine ⟨B.map fun b => ((((b.xs.map D.int).length : Nat) : Int) + 1) * ((((b.ys.map D.int).length : Nat) : Int) + 1), by rw [List.map_map]; rfl, ?_⟩
    rw [em]
    have hd : duF L W B = if 24 < manyF B then .many else .told := by
      unfold duF
      rw [find_none hno]
    refine ⟨fun z => ?_, fun z => ?_⟩
    · have z : (24 : Int) < manyF B := of_decide_eq_true z
      rw [if_pos z] at hd
      rw [hd] at h
      exact h
    · have z : ¬ (24 : Int) < manyF B := of_decide_eq_false z
      rw [if_neg z] at hd
      rw [hd] at h
      exact h
theorem ok_spoilt (Df : DefAt K mg "_law_spoilt" s_spoilt ["_law_bag_here", "_law_joints", "_law_end"]) (B : Bt mg) (C_take : Callee P w K mg base 1 "_law_take" ["_law_bag_here", "_law_many"] [0] takeX) : Callee P w K mg base 2 "_law_spoilt" ["_law_bag_here", "_law_joints", "_law_end"] [0] spoiltX := by
  refine callee_of Df sc_spoilt (by decide) (by decide) fun f cdv A outer s H EX W hr hG tk hp => ?_
  refine ⟨_, (ss_cons (s_set 3 (q_callC C_take tk (hr.mono (by decide)) hG (by rfl) (a_own 0 (a_cons q_int a_nil)) [0]) sc_spoilt.nd)
      (ss_cons (s_set 4 (q_callC C_take tk (hr.mono (by decide)) hG (by rfl) (a_own 0 (a_cons (q_add ((q_b1 c_lenB g_lenB (by rfl) B.len bt_len (p_nm 1))).p (q_int).p) a_nil)) [0]) sc_spoilt.nd)
      (ss_cons (s_set 5 (q_ixA (hu65 hr) ((q_lst (a_cons q_int (a_cons (p_nm 2).val (a_cons (q_bl_ (call_min2 rfl) g_min2 (by rfl) B.min bt_min (a_cons q_int (a_cons (q_add (p_nm 2) ((q_callC C_take tk (hr.mono (by decide)) hG (by rfl) (a_own 0 (a_cons q_int a_nil)) [0])).p) a_nil))) (a_cons (q_callC C_take tk (hr.mono (by decide)) hG (by rfl) (a_own 0 (a_cons q_int a_nil)) [0]) a_nil)))))).p ((q_callC C_take tk (hr.mono (by decide)) hG (by rfl) (a_own 0 (a_cons q_int a_nil)) [0])).p) sc_spoilt.nd)
      (ss_cons (s_if ((w_andM (t_eq (hu65 hr) (p_nm 3) (q_int).p) (w_and1 (t_lt (p_nm 4) ((q_b1 c_lenB g_lenB (by rfl) B.len bt_len (p_nm 1))).p)))).t (ss_one (s_ret ((q_add ((q_add ((q_slice (p_nm 1) o_none (o_some (p_nm 4).val))).p ((q_lst (a_cons (p_nm 5).val a_nil))).p)).p ((q_slice (p_nm 1) (o_some (q_add (p_nm 4) (q_int).p)) o_none)).p)).fz)) ss_nil)
      (ss_cons (s_if ((w_andM (t_eq (hu65 hr) (p_nm 3) (q_int).p) (w_and1 (t_lt ((q_add (p_nm 4) (q_int).p)).p ((q_b1 c_lenB g_lenB (by rfl) B.len bt_len (p_nm 1))).p)))).t (ss_one (s_ret ((q_add ((q_add ((q_slice (p_nm 1) o_none (o_some (p_nm 4).val))).p ((q_lst (a_cons (q_ixA (hu65 hr) (p_nm 1) ((q_add (p_nm 4) (q_int).p)).p) (a_cons (q_ixA (hu65 hr) (p_nm 1) (p_nm 4)) a_nil)))).p)).p ((q_slice (p_nm 1) (o_some (q_add (p_nm 4) (q_int).p)) o_none)).p)).fz)) ss_nil)
      (ss_cons (s_if ((w_andM (t_eq (hu65 hr) (p_nm 3) (q_int).p) (w_andM (t_lt (p_nm 4) ((q_b1 c_lenB g_lenB (by rfl) B.len bt_len (p_nm 1))).p) (w_and1 (t_lt ((q_b1 c_lenB g_lenB (by rfl) B.len bt_len (p_nm 1))).p (q_int).p))))).t (ss_one (s_ret ((q_add ((q_add ((q_slice (p_nm 1) o_none (o_some (p_nm 4).val))).p ((q_lst (a_cons (q_ixA (hu65 hr) (p_nm 1) (p_nm 4)) a_nil))).p)).p ((q_slice (p_nm 1) (o_some (p_nm 4).val) o_none)).p)).fz)) ss_nil)
      (ss_one (s_ret ((q_slice ((q_add ((q_add ((q_slice (p_nm 1) o_none (o_some (p_nm 4).val))).p ((q_lst (a_cons (p_nm 5).val a_nil))).p)).p ((q_slice (p_nm 1) (o_some (p_nm 4).val) o_none)).p)).p o_none (o_some q_int))).fz)))))))), fun args Q E hl h => ?_⟩
  clear hl hr hG tk hp W EX H s outer A cdv f Df B C_take
  obtain ⟨t, xs, e, rfl, hb, hs, he, h⟩ := h
  unfold M6 at he
  have hs1 := hs.1
  walk_at "nf"
  refine ⟨_, _, rfl, hb, by decide, by decide, fun wy t1 w0 w1 hb1 => ?_⟩
  walk_at "nf"
  refine ⟨_, _, rfl, hb1, by simp <;> omega, by simp <;> omega, fun at_ t2 a0 a1 hb2 => ?_⟩
  walk_at "nf"
  refine ⟨_, _, rfl, hb2, by decide, by decide, fun u t3 u0 u1 hb3 => ?_⟩
  refine ⟨_, _, rfl, hb3, by decide, by decide, fun v t4 v0 v1 hb4 => ?_⟩
  refine ⟨_, _, rfl, hb4, by decide, by decide, fun ix t5 i0 i1 hb5 => ?_⟩
  refine at_all (C := fun d => ∃ i : Int, d = .int i ∧ 0 ≤ i ∧ i ≤ 1000000) i0 i1 (by simp; omega) ?_
  rintro _ ⟨o, rfl, o0, o1⟩
  have key : ∀ ds : List D, (∀ d, d ∈ ds → isSp d) → ds.length ≤ 23 → Q (.fz (.nd .lst ds)) [t5] := fun ds p q => by
    obtain ⟨ys, rfl, hy⟩ := sp_ex p q
    exact h ys t5 hy hb5
  have hcl : ∀ a b, (cutL (xs.map D.int) a b).length ≤ 23 := fun a b => Nat.le_trans (cutL_len _ _ _) (by rw [List.length_map]; omega)
  walk_at "nf"
  refine ⟨.inl rfl, decide (at_ < ((xs.map D.int).length : Nat)), fun _ => ⟨rfl, rfl⟩, fun z => ?_, fun z => ?_⟩
  · have z2 : at_ < xs.length := by
      rw [Bool.and_eq_true, decide_eq_true_eq, List.length_map] at z; exact z.2
    walk_at "nf"
    refine ⟨szN (by have := hcl none (some at_); simp; omega), ?_⟩
    refine ⟨szN (by have := hcl none (some at_); have := hcl (some (at_ + 1)) none; simp; omega), ?_⟩
    refine key _ ?_ ?_
    · intro d hd
      simp only [List.mem_append, List.mem_cons, List.not_mem_nil, or_false] at hd
      rcases hd with (hd | rfl) | hd
      · exact sp_xs hs d (cut_mem hd)
      · exact sp_int ⟨o0, o1⟩
      · exact sp_xs hs d (cut_mem hd)
    · rw [cut_take a0, cut_drop (by omega)]; simp; omega
  walk_at "nf"
  refine ⟨.inl rfl, decide (at_ + 1 < ((xs.map D.int).length : Nat)), fun _ => ⟨rfl, rfl⟩, fun z => ?_, fun z => ?_⟩
  · walk_at "nf"
    have z2 : at_ + 1 < xs.length := by
      rw [Bool.and_eq_true, decide_eq_true_eq, List.length_map] at z; exact z.2
    have e1 : (xs.map D.int)[(at_ + 1).toNat]? = some (.int (xs.getD (at_ + 1).toNat 0)) := by
      rw [List.getElem?_map, List.getElem?_eq_getElem (by omega), List.getD_eq_getElem?_getD, List.getElem?_eq_getElem (by omega)]; rfl
    have e2 : (xs.map D.int)[at_.toNat]? = some (.int (xs.getD at_.toNat 0)) := by
      rw [List.getElem?_map, List.getElem?_eq_getElem (by omega), List.getD_eq_getElem?_getD, List.getElem?_eq_getElem (by omega)]; rfl
    have s1 := sp_xs hs _ (List.mem_of_getElem? e1)
    have s2 := sp_xs hs _ (List.mem_of_getElem? e2)
    walk_at "nf"
    refine ⟨_, at_int (by omega) e1, _, at_int (by omega) e2, ?_⟩
    refine ⟨szN (by have := hcl none (some at_); simp; omega), ?_⟩
    refine ⟨szN (by have := hcl none (some at_); have := hcl (some (at_ + 2)) none; simp; omega), ?_⟩
    refine key _ ?_ ?_
    · intro d hd
      simp only [List.mem_append, List.mem_cons, List.not_mem_nil, or_false] at hd
      rcases hd with (hd | rfl | rfl) | hd
      · exact sp_xs hs d (cut_mem hd)
      · exact s1
      · exact s2
      · exact sp_xs hs d (cut_mem hd)
    · rw [cut_take a0, cut_drop (by omega)]; simp; omega
  walk_at "nf"
  refine ⟨.inl rfl, decide (at_ < ((xs.map D.int).length : Nat)) && decide (((xs.map D.int).length : Nat) < (23 : Int)), fun _ => ⟨decide (((xs.map D.int).length : Nat) < (23 : Int)), fun _ => ⟨rfl, rfl⟩, rfl, rfl⟩, fun z => ?_, fun z => ?_⟩
  · walk_at "nf"
    have z2 : at_ < xs.length ∧ xs.length < 23 := by
      rw [Bool.and_eq_true, Bool.and_eq_true, decide_eq_true_eq, decide_eq_true_eq, List.length_map] at z; exact ⟨z.2.1, by omega⟩
    have e2 : (xs.map D.int)[at_.toNat]? = some (.int (xs.getD at_.toNat 0)) := by
      rw [List.getElem?_map, List.getElem?_eq_getElem (by omega), List.getD_eq_getElem?_getD, List.getElem?_eq_getElem (by omega)]; rfl
    have s2 := sp_xs hs _ (List.mem_of_getElem? e2)
    walk_at "nf"
    refine ⟨_, at_int (by omega) e2, ?_⟩
    refine ⟨szN (by have := hcl none (some at_); simp; omega), ?_⟩
    refine ⟨szN (by have := hcl none (some at_); have := hcl (some at_) none; simp; omega), ?_⟩
    refine key _ ?_ ?_
    · intro d hd
      simp only [List.mem_append, List.mem_cons, List.not_mem_nil, or_false] at hd
      rcases hd with (hd | rfl) | hd
      · exact sp_xs hs d (cut_mem hd)
      · exact s2
      · exact sp_xs hs d (cut_mem hd)
    · rw [cut_take a0, cut_drop (by omega)]; simp; omega
  walk_at "nf"
  walk_at "nf"
  refine ⟨szN (by have := hcl none (some at_); simp; omega), ?_⟩
  refine ⟨szN (by have := hcl none (some at_); have := hcl (some at_) none; simp; omega), ?_⟩
  refine key _ ?_ ?_
  · intro d hd
    have hd := cut_mem hd
    simp only [List.mem_append, List.mem_cons, List.not_mem_nil, or_false] at hd
    rcases hd with (hd | rfl) | hd
    · exact sp_xs hs d (cut_mem hd)
    · exact sp_int ⟨o0, o1⟩
    · exact sp_xs hs d (cut_mem hd)
  · rw [cut_take (by decide)]; simp; omega
theorem ok_wild (Df : DefAt K mg "_law_wild" s_wild ["_law_bag_here"]) (B : Bt mg) (C_measure : Callee P w K mg base 2 "_law_measure" ["_law_bag_here"] [0] measS) (C_grains : Callee P w K mg base 2 "_law_grains" ["_law_bag_here"] [0] grainsS) (C_take : Callee P w K mg base 1 "_law_take" ["_law_bag_here", "_law_many"] [0] takeX) (C_bed : Callee P w K mg base 3 "_law_bed" ["_law_bag_here", "_law_grains_here", "_law_height", "_law_cap", "_law_length", "_law_width"] [0] lbedS) (C_spoilt : Callee P w K mg base 2 "_law_spoilt" ["_law_bag_here", "_law_joints", "_law_end"] [0] spoiltX) : Callee P w K mg base 4 "_law_wild" ["_law_bag_here"] [0] wildX := by
  refine callee_of Df sc_wild (by decide) (by decide) fun f cdv A outer s H EX W hr hG tk hp => ?_
  refine ⟨_, (ss_cons (s_set 1 (q_callC C_measure tk (hr.mono (by decide)) hG (by rfl) (a_own 0 a_nil) [0]) sc_wild.nd)
      (ss_cons (s_set 2 (q_callC C_measure tk (hr.mono (by decide)) hG (by rfl) (a_own 0 a_nil) [0]) sc_wild.nd)
      (ss_cons (s_set 3 (q_callC C_grains tk (hr.mono (by decide)) hG (by rfl) (a_own 0 a_nil) [0]) sc_wild.nd)
      (ss_cons (s_set 4 (q_add (q_int).p ((q_callC C_take tk (hr.mono (by decide)) hG (by rfl) (a_own 0 (a_cons q_int a_nil)) [0])).p) sc_wild.nd)
      (ss_cons (s_set 5 (q_ixA (hu65 hr) ((q_lst (a_cons q_int (a_cons q_int (a_cons q_int (a_cons q_int a_nil)))))).p ((q_callC C_take tk (hr.mono (by decide)) hG (by rfl) (a_own 0 (a_cons q_int a_nil)) [0])).p) sc_wild.nd)
      (ss_cons (s_set 6 (q_lst a_nil) sc_wild.nd)
      (ss_cons (s_for hp rfl (i_rng (by rfl) B.range (q_add (q_int).p ((q_callC C_take tk (hr.mono (by decide)) hG (by rfl) (a_own 0 (a_cons q_int a_nil)) [0])).p)) (g_name 7 sc_wild.nd) (ss_cons (s_set 8 (q_ixA (hu65 hr) ((q_lst (a_cons q_int (a_cons q_int (a_cons q_int a_nil))))).p ((q_callC C_take tk (hr.mono (by decide)) hG (by rfl) (a_own 0 (a_cons q_int a_nil)) [0])).p) sc_wild.nd)
      (ss_cons (s_set 9 (q_ty1 call_list_of g_list (by rfl) B.list bt_list ((q_callC C_bed tk (hr.mono (by decide)) hG (by rfl) (a_own 0 (a_cons (p_nm 3).val (a_cons (q_add (q_int).p ((q_callC C_take tk (hr.mono (by decide)) hG (by rfl) (a_own 0 (a_cons (p_nm 5).val a_nil)) [0])).p) (a_cons (p_nm 8).val (a_cons (p_nm 1).val (a_cons (p_nm 2).val a_nil)))))) [0])).p) sc_wild.nd)
      (ss_cons (s_for hp rfl (i_list ((q_lst (a_cons (q_tup (a_cons q_int (a_cons (p_nm 1).val a_nil))) (a_cons (q_tup (a_cons q_int (a_cons (p_nm 2).val a_nil))) a_nil)))).fz) (g_tup (n := 2) rfl (gs_cons (g_name 10 sc_wild.nd) (gs_cons (g_name 11 sc_wild.nd) gs_nil))) (ss_one (s_if (t_eq (hu65 hr) ((q_callC C_take tk (hr.mono (by decide)) hG (by rfl) (a_own 0 (a_cons (q_mul (q_int).p (p_nm 4)) a_nil)) [0])).p (q_int).p) (ss_one (s_store 9 (q_callC C_spoilt tk (hr.mono (by decide)) hG (by rfl) (a_own 0 (a_cons (q_ixA (hu65 hr) (p_nm 9) (p_nm 10)) (a_cons (p_nm 11).val a_nil))) [0]) (p_nm 10).val)) ss_nil)))
      (ss_one (s_expr (q_append 6 (a_cons (q_ty1 call_tuple_of g_tuple (by rfl) B.tuple bt_tuple (p_nm 9)) a_nil))))))))
      (ss_one (s_ret (q_tup (a_cons (p_nm 1).val (a_cons (p_nm 2).val (a_cons (q_fzn 6) a_nil))))))))))))), fun args Q E hl h => ?_⟩
  clear hl hr hG tk hp W EX H s outer A cdv f Df B C_measure C_grains C_take C_bed C_spoilt
  obtain ⟨t, rfl, hb, h⟩ := h
  walk_at "nf"
  refine ⟨_, rfl, hb, fun L t1 hL hb1 => ?_⟩
  walk_at "nf"
  refine ⟨_, rfl, hb1, fun W t2 hW hb2 => ?_⟩
  walk_at "nf"
  refine ⟨_, rfl, hb2, fun gs t3 hg g1 g2 hb3 => ?_⟩
  walk_at "nf"
  refine ⟨_, _, rfl, hb3, by decide, by decide, fun ra t4 r0 r1 hb4 => ?_⟩
  walk_at "nf"
  refine ⟨_, _, rfl, hb4, by decide, by decide, fun ix t5 i0 i1 hb5 => ?_⟩
  refine at_all (C := fun d => ∃ i : Int, d = .int i ∧ 1 ≤ i ∧ i ≤ 1000000) i0 i1 (by simp) ?_
  rintro _ ⟨hi, rfl, h0, h1⟩
  walk_at "nf"
  refine ⟨_, _, rfl, hb5, by decide, by decide, fun n t6 n0 n1 hb6 => ?_⟩
  refine ⟨Int.le_trans (show 1 + n ≤ 200 by omega) (by decide), by omega, ?_⟩
  refine .rng [0, 6, 7, 8, 9, 10, 11] (fun j vs => ∃ (t : T) (B : List Bed) (x1 x2 x3 x4 x5 : Option T), vs = [some t, some (.ow .lst (B.map bedD)), x1, x2, x3, x4, x5] ∧ IsBag t ∧ B.length = j ∧ ∀ b, b ∈ B → wbed b) ⟨[_, _, _, _, _, _, _], rfl, t6, [], _, _, _, _, _, rfl, hb6, rfl, by simp⟩ ?_ ?_
  · rintro j vs hj ⟨t, B, x1, x2, x3, x4, x5, rfl, hb, hBl, hBo⟩
    rw [Int.zero_add]
    walk_at "nf"
    refine ⟨_, _, rfl, hb, by decide, by decide, fun cx t2 c0 c1 hb2 => ?_⟩
    refine at_all (C := fun d => ∃ i : Int, d = .int i ∧ 1 ≤ i ∧ i ≤ 24) c0 c1 (by simp) ?_
    rintro _ ⟨c, rfl, p0, p1⟩
    walk_at "nf"
    refine ⟨_, _, rfl, hb2, by omega, by omega, fun hh t3 q0 q1 hb3 => ?_⟩
    refine ⟨_, gs, 1 + hh, c, L, W, rfl, hb3, hg, ⟨g1, g2⟩, ⟨by omega, by omega⟩, p0, p1, hL, hW, fun b t4 hbo hbh hbc hb4 => ?_⟩
    walk_at "nf"
    refine .fr [0, 9, 10, 11] (fun i vs => ∃ (t : T) (b : Bed) (x y : Option T), vs = [some t, some (.ow .lst [.int b.h, .str b.g, .int b.w, intsD b.xs, intsD b.ys]), x, y] ∧ IsBag t ∧ wbed b) ⟨[_, _, _, _], rfl, t4, b, _, _, rfl, hb4, (okb_w hL hW hbo)⟩ ?_ ?_
    · rintro i d vs hd ⟨t, b, x, y, rfl, hb, hw⟩
      have hi : i = 0 ∨ i = 1 := by
        have := (List.getElem?_eq_some_iff.mp hd).1
        have : i < 2 := this
        omega
      obtain ⟨h1, h2, h3, h4, h5⟩ := hw
      rcases hi with rfl | rfl
      · cases hd
        refine ⟨rfl, ?_⟩
        walk_at "nf"
        refine ⟨cmulR (by omega) (by omega), ?_⟩
        refine ⟨_, _, rfl, hb, by omega, by omega, fun v t2 v0 v1 hb2 => ?_⟩
        refine ⟨.inl rfl, fun z => ?_, fun z => ⟨[_, _, _, _], rfl, t2, b, _, _, rfl, hb2, h1, h2, h3, h4, h5⟩⟩
        refine ⟨_, at_int (by decide) rfl, ?_⟩
        refine ⟨_, b.xs, L, rfl, hb2, h4, hL, fun ys t3 hy hb3 => ?_⟩
        refine ⟨rfl, 3, rfl, ?_⟩
        exact ⟨[_, _, _, _], rfl, t3, ⟨b.h, b.g, b.w, ys, b.ys⟩, _, _, rfl, hb3, h1, h2, h3, hy, h5⟩
      · cases hd
        refine ⟨rfl, ?_⟩
        walk_at "nf"
        refine ⟨cmulR (by omega) (by omega), ?_⟩
        refine ⟨_, _, rfl, hb, by omega, by omega, fun v t2 v0 v1 hb2 => ?_⟩
        refine ⟨.inl rfl, fun z => ?_, fun z => ⟨[_, _, _, _], rfl, t2, b, _, _, rfl, hb2, h1, h2, h3, h4, h5⟩⟩
        refine ⟨_, at_int (by decide) rfl, ?_⟩
        refine ⟨_, b.ys, W, rfl, hb2, h5, hW, fun ys t3 hy hb3 => ?_⟩
        refine ⟨rfl, 4, rfl, ?_⟩
        exact ⟨[_, _, _, _], rfl, t3, ⟨b.h, b.g, b.w, b.xs, ys⟩, _, _, rfl, hb3, h1, h2, h3, h4, hy⟩
    · rintro vs ⟨t, b, x, y, rfl, hb, hw⟩
      walk_at "nf"
      refine ⟨rfl, szL (by rw [List.length_map]; omega), ?_⟩
      exact ⟨[_, _, _, _, _, _, _], rfl, t, B ++ [b], _, _, _, _, _, by rw [List.map_append]; exact rfl, hb, by simp [hBl], fun a ha => by
        rcases List.mem_append.mp ha with q | q
        · exact hBo a q
        · simp at q; subst q; exact hw⟩
  · rintro vs ⟨t, B, x1, x2, x3, x4, x5, rfl, hb, hBl, hBo⟩
    exact h L W B t ⟨hL, hW, by omega, hBo⟩ hb
theorem ok_bad_measure (Df : DefAt K mg "_law_bad_measure" s_bad_measure ["_law_bag_here"]) (C_take : Callee P w K mg base 1 "_law_take" ["_law_bag_here", "_law_many"] [0] takeX) : Callee P w K mg base 2 "_law_bad_measure" ["_law_bag_here"] [0] bmeasX := by
  refine callee_of Df sc_bad_measure (by decide) (by decide) fun f cdv A outer s H EX W hr hG tk hp => ?_
  refine ⟨_, (ss_one (s_ret (q_ixA (hu65 hr) ((q_lst (a_cons q_int (a_cons (q_neg (q_int).p) (a_cons q_int (a_cons q_bl (a_cons q_bl (a_cons q_non (a_cons q_str (a_cons ((q_lst (a_cons q_int a_nil))).fz (a_cons (q_tup (a_cons q_int a_nil)) (a_cons (q_dict0).fz (a_cons (q_neg ((q_pow (q_int).p (q_int).p)).p) (a_cons (q_pow (q_int).p (q_int).p) a_nil)))))))))))))).p ((q_callC C_take tk (hr.mono (by decide)) hG (by rfl) (a_own 0 (a_cons q_int a_nil)) [0])).p))), fun args Q E hl h => ?_⟩
  clear hl hr hG tk hp W EX H s outer A cdv f Df C_take
  obtain ⟨t, rfl, hb, h⟩ := h
  walk_at "nf"
  refine ⟨show CPow _ _ from ⟨by decide, by decide, by decide⟩, show CPow _ _ from ⟨by decide, by decide, by decide⟩, ?_⟩
  refine ⟨_, _, rfl, hb, by decide, by decide, fun ix t1 i0 i1 hb1 => ?_⟩
  refine at_all (C := fun d => gd 2 150 d ∧ btB d 1 1000000 = false) i0 i1 (gd_bads (p := fun d => btB d 1 1000000) (by decide +kernel)) ?_
  rintro d ⟨hd, hb⟩
  exact h d t1 hd hb hb1
theorem ok_bad_joints (Df : DefAt K mg "_law_bad_joints" s_bad_joints ["_law_bag_here", "_law_joints"]) (B : Bt mg) (C_take : Callee P w K mg base 1 "_law_take" ["_law_bag_here", "_law_many"] [0] takeX) : Callee P w K mg base 2 "_law_bad_joints" ["_law_bag_here", "_law_joints"] [0] bjntX := by
  refine callee_of Df sc_bad_joints (by decide) (by decide) fun f cdv A outer s H EX W hr hG tk hp => ?_
  refine ⟨_, (ss_cons (s_set 2 (q_ixA (hu65 hr) ((q_lst (a_cons (q_neg (q_int).p) (a_cons q_int (a_cons q_bl (a_cons q_bl (a_cons q_non (a_cons q_str (a_cons ((q_lst (a_cons q_int a_nil))).fz (a_cons (q_tup (a_cons q_int a_nil)) (a_cons q_str (a_cons (q_pow (q_int).p (q_int).p) a_nil)))))))))))).p ((q_callC C_take tk (hr.mono (by decide)) hG (by rfl) (a_own 0 (a_cons q_int a_nil)) [0])).p) sc_bad_joints.nd)
      (ss_cons (s_set 3 (q_callC C_take tk (hr.mono (by decide)) hG (by rfl) (a_own 0 (a_cons (q_add ((q_b1 c_lenB g_lenB (by rfl) B.len bt_len (p_nm 1))).p (q_int).p) a_nil)) [0]) sc_bad_joints.nd)
      (ss_cons (s_set 4 ((q_lst (a_cons q_non (a_cons (q_ty1 call_tuple_of g_tuple (by rfl) B.tuple bt_tuple (p_nm 1)) (a_cons q_str (a_cons q_int (a_cons (q_dict0).fz (a_cons q_bl (a_cons ((q_lrng2 rfl (by rfl) B.list (by rfl) B.range q_int q_int)).fz (a_cons q_str (a_cons ((q_add ((q_add ((q_slice (p_nm 1) o_none (o_some (p_nm 3).val))).p ((q_lst (a_cons (p_nm 2).val a_nil))).p)).p ((q_slice (p_nm 1) (o_some (p_nm 3).val) o_none)).p)).fz a_nil))))))))))).fz sc_bad_joints.nd)
      (ss_one (s_ret (q_ixA (hu65 hr) (p_nm 4) ((q_bl_ (call_min2 rfl) g_min2 (by rfl) B.min bt_min (a_cons q_int (a_cons (q_callC C_take tk (hr.mono (by decide)) hG (by rfl) (a_own 0 (a_cons q_int a_nil)) [0]) a_nil)))).p)))))), fun args Q E hl h => ?_⟩
  clear hl hr hG tk hp W EX H s outer A cdv f Df B C_take
  obtain ⟨t, xs, rfl, hb, hs, h⟩ := h
  have hs1 := hs.1
  walk_at "nf"
  refine ⟨show CPow _ _ from ⟨by decide, by decide, by decide⟩, ?_⟩
  refine ⟨_, _, rfl, hb, by decide, by decide, fun ix t1 i0 i1 hb1 => ?_⟩
  refine at_all (C := fun d => gd 2 150 d ∧ btB d 0 1000000 = false) i0 i1 (gd_bads (p := fun d => btB d 0 1000000) (by decide +kernel)) ?_
  rintro o ⟨ho, hob⟩
  walk_at "nf"
  refine ⟨_, _, rfl, hb1, by simp <;> omega, by simp <;> omega, fun at_ t2 a0 a1 hb2 => ?_⟩
  walk_at "nf"
  have hcl : ∀ a b, (cutL (xs.map D.int) a b).length ≤ 23 := fun a b => Nat.le_trans (cutL_len _ _ _) (by rw [List.length_map]; omega)
  refine ⟨by decide, by decide, by decide, ?_⟩
  refine ⟨szN (by have := hcl none (some at_); simp; omega), ?_⟩
  refine ⟨szN (by have := hcl none (some at_); have := hcl (some at_) none; simp; omega), ?_⟩
  walk_at "nf"
  refine ⟨_, _, rfl, hb2, by decide, by decide, fun v t3 v0 v1 hb3 => ?_⟩
  refine at_all (C := fun d => gd 3 3700 d ∧ jnB d = false) (show (0 : Int) ≤ min 8 v by omega) (by simp; omega) ?_ ?_
  · intro d hd
    simp only [List.mem_cons, List.not_mem_nil, or_false] at hd
    rcases hd with rfl | rfl | rfl | rfl | rfl | rfl | rfl | rfl | rfl
    · exact ⟨gd_iff.mp (by decide +kernel), rfl⟩
    · exact ⟨(gd_tup (m := 23) (gd_xs hs) (by rw [List.length_map]; exact hs1)).mono (by decide), rfl⟩
    · exact ⟨gd_iff.mp (by decide +kernel), rfl⟩
    · exact ⟨gd_iff.mp (by decide +kernel), rfl⟩
    · exact ⟨gd_iff.mp (by decide +kernel), rfl⟩
    · exact ⟨gd_iff.mp (by decide +kernel), rfl⟩
    · exact ⟨gd_iff.mp (by decide +kernel), by decide +kernel⟩
    · exact ⟨gd_iff.mp (by decide +kernel), rfl⟩
    · refine ⟨(gd_lst (n := 2) (m := 24) (k := 150) (fun d hd => ?_) ?_).mono (by decide), jn_bad (o := o) (by simp) hob⟩
      · simp only [List.mem_append, List.mem_cons, List.not_mem_nil, or_false] at hd
        rcases hd with (hd | rfl) | hd
        · exact (gd_xs hs d (cut_mem hd)).mono (by decide)
        · exact ho
        · exact (gd_xs hs d (cut_mem hd)).mono (by decide)
      · rw [cut_take a0, cut_drop a0]; simp; omega
  rintro d ⟨hd, hj⟩
  exact h d t3 hd hj hb3
theorem ok_bad_bed (Df : DefAt K mg "_law_bad_bed" s_bad_bed ["_law_bag_here", "_law_bed_here"]) (B : Bt mg) (C_take : Callee P w K mg base 1 "_law_take" ["_law_bag_here", "_law_many"] [0] takeX) (C_bad_measure : Callee P w K mg base 2 "_law_bad_measure" ["_law_bag_here"] [0] bmeasX) (C_bad_joints : Callee P w K mg base 2 "_law_bad_joints" ["_law_bag_here", "_law_joints"] [0] bjntX) : Callee P w K mg base 3 "_law_bad_bed" ["_law_bag_here", "_law_bed_here"] [0] bbedX := by
  refine callee_of Df sc_bad_bed (by decide) (by decide) fun f cdv A outer s H EX W hr hG tk hp => ?_
  refine ⟨_, (ss_cons (s_set 2 (q_ty1 call_list_of g_list (by rfl) B.list bt_list (p_nm 1)) sc_bad_bed.nd)
      (ss_cons (s_set 3 (q_callC C_take tk (hr.mono (by decide)) hG (by rfl) (a_own 0 (a_cons q_int a_nil)) [0]) sc_bad_bed.nd)
      (ss_cons (s_if (t_eq (hu65 hr) (p_nm 3) (q_int).p) (ss_one (s_ret (q_ixA (hu65 hr) ((q_lst (a_cons q_non (a_cons q_int (a_cons q_str (a_cons ((q_lst a_nil)).fz (a_cons (q_tup a_nil) (a_cons q_bl (a_cons (q_fzn 2) (a_cons ((q_slice (p_nm 1) o_none (o_some q_int))).fz (a_cons ((q_add (p_nm 1) ((q_tup (a_cons q_int a_nil))).p)).fz (a_cons (q_tup (a_cons (p_nm 1).val a_nil)) a_nil)))))))))))).p ((q_callC C_take tk (hr.mono (by decide)) hG (by rfl) (a_own 0 (a_cons q_int a_nil)) [0])).p))) ss_nil)
      (ss_cons (s_set 4 (q_mod (p_nm 3) (q_int).p) sc_bad_bed.nd)
      (ss_cons (s_if (t_eq (hu65 hr) (p_nm 4) (q_int).p) (ss_one (s_store 2 (q_callC C_bad_measure tk (hr.mono (by decide)) hG (by rfl) (a_own 0 a_nil) [0]) q_int)) (ss_one (s_if (t_eq (hu65 hr) (p_nm 4) (q_int).p) (ss_one (s_store 2 (q_ixA (hu65 hr) ((q_lst (a_cons q_str (a_cons q_str (a_cons q_str (a_cons q_str (a_cons q_str (a_cons q_non (a_cons q_int (a_cons q_bl (a_cons ((q_lst (a_cons q_str a_nil))).fz (a_cons q_str (a_cons (q_tup (a_cons q_str a_nil)) (a_cons q_str a_nil)))))))))))))).p ((q_callC C_take tk (hr.mono (by decide)) hG (by rfl) (a_own 0 (a_cons q_int a_nil)) [0])).p) q_int)) (ss_one (s_if (t_eq (hu65 hr) (p_nm 4) (q_int).p) (ss_one (s_store 2 (q_ixA (hu65 hr) ((q_lst (a_cons q_int (a_cons q_int (a_cons (q_neg (q_int).p) (a_cons q_bl (a_cons q_bl (a_cons q_non (a_cons q_str (a_cons ((q_lst (a_cons q_int a_nil))).fz (a_cons (q_tup (a_cons q_int a_nil)) (a_cons (q_pow (q_int).p (q_int).p) (a_cons (q_dict0).fz (a_cons q_str a_nil)))))))))))))).p ((q_callC C_take tk (hr.mono (by decide)) hG (by rfl) (a_own 0 (a_cons q_int a_nil)) [0])).p) q_int)) (ss_one (s_store 2 (q_callC C_bad_joints tk (hr.mono (by decide)) hG (by rfl) (a_own 0 (a_cons (q_ixA (hu65 hr) (p_nm 2) (p_nm 4)) a_nil)) [0]) (p_nm 4).val)))))))
      (ss_one (s_ret (q_ty1 call_tuple_of g_tuple (by rfl) B.tuple bt_tuple (p_nm 2))))))))), fun args Q E hl h => ?_⟩
  clear hl hr hG tk hp W EX H s outer A cdv f Df B C_take C_bad_measure C_bad_joints
  obtain ⟨t, b, rfl, hb, hw, h⟩ := h
  have hw0 := hw
  obtain ⟨h1, h2, h3, h4, h5⟩ := hw0
  unfold M6 at h1
  have a1 : gd 4 3700 (D.int b.h) := (gd_int (by omega)).mono (by decide)
  have a2 : gd 4 3700 (D.str b.g) := (gd_str h2).mono (by decide)
  have a3 : gd 4 3700 (D.int b.w) := (gd_int (by omega)).mono (by decide)
  have a4 : gd 4 3700 (intsD b.xs) := (gd_ints h4).mono (by decide)
  have a5 : gd 4 3700 (intsD b.ys) := (gd_ints h5).mono (by decide)
  have key : ∀ (a g w x y : D) (t : T), gd 4 3700 a → gd 4 3700 g → gd 4 3700 w → gd 4 3700 x → gd 4 3700 y → (btB a 1 1000000 = false ∨ grB g = false ∨ btB w 1 1000 = false ∨ jnB x = false ∨ jnB y = false) → IsBag t → Q (.fz (.nd .tup [a, g, w, x, y])) [t] := fun a g w x y t k1 k2 k3 k4 k5 hbad hb => by
    refine h _ t ((gd_tup (n := 4) (m := 5) (k := 3700) (fun d hd => ?_) (by simp)).mono (by decide)) (bed_bad hbad) hb
    simp only [List.mem_cons, List.not_mem_nil, or_false] at hd
    rcases hd with rfl | rfl | rfl | rfl | rfl <;> assumption
  walk_at "nf"
  refine ⟨_, _, rfl, hb, by decide, by decide, fun wy t1 w0 w1 hb1 => ?_⟩
  walk_at "nf"
  refine ⟨.inl rfl, fun z => ?_, fun z => ?_⟩
  · walk_at "nf"
    refine ⟨szN (by simp), ?_⟩
    refine ⟨_, _, rfl, hb1, by decide, by decide, fun ix t2 i0 i1 hb2 => ?_⟩
    refine at_all (C := fun d => gd 5 20000 d ∧ bedB d = false) i0 i1 ?_ ?_
    · have hm : ∀ d, d ∈ [D.int b.h, D.str b.g, D.int b.w, intsD b.xs, intsD b.ys] → gd 3 3243 d := fun d hd => by
        simp only [List.mem_cons, List.not_mem_nil, or_false] at hd
        rcases hd with rfl | rfl | rfl | rfl | rfl
        · exact (gd_int (by omega)).mono (by decide)
        · exact (gd_str h2).mono (by decide)
        · exact (gd_int (by omega)).mono (by decide)
        · exact gd_ints h4
        · exact gd_ints h5
      intro d hd
      simp only [List.mem_cons, List.not_mem_nil, or_false] at hd
      rcases hd with rfl | rfl | rfl | rfl | rfl | rfl | rfl | rfl | rfl | rfl
      · exact ⟨gd_iff.mp (by decide +kernel), rfl⟩
      · exact ⟨gd_iff.mp (by decide +kernel), rfl⟩
      · exact ⟨gd_iff.mp (by decide +kernel), rfl⟩
      · exact ⟨gd_iff.mp (by decide +kernel), rfl⟩
      · exact ⟨gd_iff.mp (by decide +kernel), rfl⟩
      · exact ⟨gd_iff.mp (by decide +kernel), rfl⟩
      · exact ⟨((gd_lst (m := 5) hm (by simp)).mono (by decide)).up (by decide), rfl⟩
      · refine ⟨((gd_tup (m := 5) (fun d hd => hm d (cut_mem hd)) (Nat.le_trans (cutL_len _ _ _) (by simp))).mono (by decide)).up (by decide), ?_⟩
        rw [cut_take (by decide)]; rfl
      · refine ⟨((gd_tup (m := 6) (k := 3243) (n := 3) (fun d hd => ?_) (by simp)).mono (by decide)).up (by decide), rfl⟩
        rcases List.mem_append.mp hd with q | q
        · exact hm d q
        · simp at q; subst q; exact (gd_int (by decide)).mono (by decide)
      · refine ⟨((gd_tup (m := 1) (k := 6779) (n := 4) (fun d hd => ?_) (by simp)).mono (by decide)).up (by decide), rfl⟩
        simp at hd; subst hd
        exact gd_bed (n := 2) hw
    rintro d ⟨hd, hdb⟩
    exact h d t2 hd hdb hb2
  walk_at "nf"
  refine ⟨show (0 : Int) < 5 by decide, ?_⟩
  walk_at "nf"
  refine ⟨.inl rfl, fun z => ?_, fun z0 => ?_⟩
  · walk_at "nf"
    refine ⟨_, rfl, hb1, fun d t2 hd hdb hb2 => ?_⟩
    refine ⟨rfl, 0, rfl, ?_⟩
    exact key _ _ _ _ _ t2 ((hd.mono (by decide)).up (by decide)) a2 a3 a4 a5 (.inl hdb) hb2
  walk_at "nf"
  refine ⟨.inl rfl, fun z => ?_, fun z1 => ?_⟩
  · walk_at "nf"
    refine ⟨_, _, rfl, hb1, by decide, by decide, fun ix t2 i0 i1 hb2 => ?_⟩
    refine at_all (C := fun d => gd 2 150 d ∧ grB d = false) i0 i1 (gd_bads (p := grB) (by decide +kernel)) ?_
    rintro d ⟨hd, hdb⟩
    walk_at "nf"
    refine ⟨rfl, 1, rfl, ?_⟩
    exact key _ _ _ _ _ t2 a1 ((hd.mono (by decide)).up (by decide)) a3 a4 a5 (.inr (.inl hdb)) hb2
  walk_at "nf"
  refine ⟨.inl rfl, fun z => ?_, fun z => ?_⟩
  · walk_at "nf"
    refine ⟨show CPow _ _ from ⟨by decide, by decide, by decide⟩, ?_⟩
    refine ⟨_, _, rfl, hb1, by decide, by decide, fun ix t2 i0 i1 hb2 => ?_⟩
    refine at_all (C := fun d => gd 2 150 d ∧ btB d 1 1000 = false) i0 i1 (gd_bads (p := fun d => btB d 1 1000) (by decide +kernel)) ?_
    rintro d ⟨hd, hdb⟩
    walk_at "nf"
    refine ⟨rfl, 2, rfl, ?_⟩
    exact key _ _ _ _ _ t2 a1 a2 ((hd.mono (by decide)).up (by decide)) a4 a5 (.inr (.inr (.inl hdb))) hb2
  have hm : wy % 5 = 3 ∨ wy % 5 = 4 := by
    have q0 : ¬ wy % 5 = 0 := by simpa [eqD, T.d] using z0
    have q1 : ¬ wy % 5 = 1 := by simpa [eqD, T.d] using z1
    have q2 : ¬ wy % 5 = 2 := by simpa [eqD, T.d] using z
    omega
  walk_at "nf"
  rcases hm with e | e
  · rw [e]
    refine ⟨_, at_int (by decide) rfl, ?_⟩
    refine ⟨_, _, rfl, hb1, h4, fun d t2 hd hdb hb2 => ?_⟩
    refine ⟨rfl, 3, rfl, ?_⟩
    exact key _ _ _ _ _ t2 a1 a2 a3 (hd.up (by decide)) a5 (.inr (.inr (.inr (.inl hdb)))) hb2
  · rw [e]
    refine ⟨_, at_int (by decide) rfl, ?_⟩
    refine ⟨_, _, rfl, hb1, h5, fun d t2 hd hdb hb2 => ?_⟩
    refine ⟨rfl, 4, rfl, ?_⟩
    exact key _ _ _ _ _ t2 a1 a2 a3 a4 (hd.up (by decide)) (.inr (.inr (.inr (.inr hdb)))) hb2
theorem ok_bad_beds (Df : DefAt K mg "_law_bad_beds" s_bad_beds ["_law_bag_here", "_law_beds"]) (B : Bt mg) (C_take : Callee P w K mg base 1 "_law_take" ["_law_bag_here", "_law_many"] [0] takeX) (C_copy : Callee P w K mg base 1 "_law_copy" ["_law_beds"] [] copyX) (C_bad_bed : Callee P w K mg base 3 "_law_bad_bed" ["_law_bag_here", "_law_bed_here"] [0] bbedX) : Callee P w K mg base 4 "_law_bad_beds" ["_law_bag_here", "_law_beds"] [0] bbedsX := by
  refine callee_of Df sc_bad_beds (by decide) (by decide) fun f cdv A outer s H EX W hr hG tk hp => ?_
  refine ⟨_, (ss_cons (s_set 2 (q_callC C_take tk (hr.mono (by decide)) hG (by rfl) (a_own 0 (a_cons q_int a_nil)) [0]) sc_bad_beds.nd)
      (ss_cons (s_if (t_eq (hu65 hr) (p_nm 2) (q_int).p) (ss_one (s_ret (q_ixA (hu65 hr) ((q_lst (a_cons q_non (a_cons q_int (a_cons q_str (a_cons (q_tup a_nil) (a_cons ((q_lst a_nil)).fz (a_cons (q_ty1 call_tuple_of g_tuple (by rfl) B.tuple bt_tuple (p_nm 1)) (a_cons (q_dict0).fz (a_cons ((q_slice ((q_mulL (p_nm 1) (q_int).p)).p o_none (o_some q_int))).fz (a_cons q_bl (a_cons ((q_lst (a_cons (p_nm 1).val a_nil))).fz (a_cons q_str (a_cons (q_ixA (hu65 hr) (p_nm 1) (q_int).p) a_nil)))))))))))))).p ((q_callC C_take tk (hr.mono (by decide)) hG (by rfl) (a_own 0 (a_cons q_int a_nil)) [0])).p))) ss_nil)
      (ss_cons (s_set 3 (q_callC C_take tk (hr.mono (by decide)) hG (by rfl) (a_own 0 (a_cons (q_b1 c_lenB g_lenB (by rfl) B.len bt_len (p_nm 1)) a_nil)) [0]) sc_bad_beds.nd)
      (ss_cons (s_set 4 (q_callC C_copy tk (hr.mono (by decide)) hG (by rfl) (a_cons (p_nm 1).val a_nil) []) sc_bad_beds.nd)
      (ss_cons (s_store 4 (q_callC C_bad_bed tk (hr.mono (by decide)) hG (by rfl) (a_own 0 (a_cons (q_ixA (hu65 hr) (p_nm 4) (p_nm 3)) a_nil)) [0]) (p_nm 3).val)
      (ss_one (s_ret (q_fzn 4)))))))), fun args Q E hl h => ?_⟩
  clear hl hr hG tk hp W EX H s outer A cdv f Df B C_take C_copy C_bad_bed
  obtain ⟨t, L, W, B, rfl, hb, hB, h⟩ := h
  have hBl := hB.2.2.1
  have hBw := hB.2.2.2
  walk_at "nf"
  refine ⟨_, _, rfl, hb, by decide, by decide, fun wy t1 w0 w1 hb1 => ?_⟩
  walk_at "nf"
  refine ⟨.inl rfl, fun z => ?_, fun z => ?_⟩
  · walk_at "nf"
    refine ⟨B.map bedD, rfl, ⟨by decide, by decide⟩, szN (by rw [List.length_map]; show B.length * 7 ≤ _; omega), ?_⟩
    have e0 : (B.map bedD)[0]? = some (bedD B[0]) := by rw [List.getElem?_map, List.getElem?_eq_getElem (by omega)]; rfl
    refine ⟨_, at_int (by decide) e0, ?_⟩
    refine ⟨_, _, rfl, hb1, by decide, by decide, fun ix t2 i0 i1 hb2 => ?_⟩
    have gB : ∀ d, d ∈ B.map bedD → gd 5 6779 d := fun d hd => by
      obtain ⟨b, hb, rfl⟩ := List.mem_map.mp hd
      exact gd_bed (n := 3) (hBw b hb)
    refine at_all (C := fun d => gd 7 140000 d ∧ bedsB d = false) i0 i1 ?_ ?_
    · intro d hd
      simp only [List.mem_cons, List.not_mem_nil, or_false] at hd
      rcases hd with rfl | rfl | rfl | rfl | rfl | rfl | rfl | rfl | rfl | rfl | rfl | rfl
      · exact ⟨gd_iff.mp (by decide +kernel), rfl⟩
      · exact ⟨gd_iff.mp (by decide +kernel), rfl⟩
      · exact ⟨gd_iff.mp (by decide +kernel), rfl⟩
      · exact ⟨gd_iff.mp (by decide +kernel), rfl⟩
      · exact ⟨gd_iff.mp (by decide +kernel), rfl⟩
      · exact ⟨((gd_tup (m := 6) gB (by rw [List.length_map]; exact hBl.2)).mono (by decide)).up (by decide), rfl⟩
      · exact ⟨gd_iff.mp (by decide +kernel), rfl⟩
      · have hl : (List.replicate (Int.toNat 7) (B.map bedD)).flatten.length = 7 * B.length := by
          rw [List.length_flatten, List.map_replicate, List.sum_replicate_nat, List.length_map]; rfl
        refine ⟨((gd_lst (n := 5) (k := 6779) (m := 7) (fun d hd => ?_) ?_).mono (by decide)).up (by decide), beds_long ?_⟩
        · have hd := cut_mem hd
          obtain ⟨l, hl, hdl⟩ := List.mem_flatten.mp hd
          rw [List.mem_replicate] at hl
          rw [hl.2] at hdl
          exact gB d hdl
        · rw [cut_take (by decide), List.length_take]; exact Nat.min_le_left _ _
        · rw [cut_take (by decide), List.length_take, hl]; show 6 < min 7 (7 * B.length); omega
      · exact ⟨gd_iff.mp (by decide +kernel), rfl⟩
      · refine ⟨(gd_lst (n := 6) (m := 1) (k := 40680) (fun d hd => ?_) (by simp)).mono (by decide), beds_bad (o := bedsD B) (by simp) rfl⟩
        simp at hd; subst hd
        exact gd_beds (n := 3) hBw hBl.2
      · exact ⟨gd_iff.mp (by decide +kernel), rfl⟩
      · exact ⟨((gB _ (List.mem_of_getElem? e0)).mono (by decide)).up (by decide), rfl⟩
    rintro d ⟨hd, hdb⟩
    exact h d t2 hd hdb hb2
  walk_at "nf"
  refine ⟨_, _, rfl, hb1, by simp <;> omega, by simp <;> omega, fun at_ t2 a0 a1 hb2 => ?_⟩
  walk_at "nf"
  refine ⟨B, rfl, by omega, ?_⟩
  have hk : at_.toNat < B.length := by simp at a1; omega
  have e1 : (B.map bedD)[at_.toNat]? = some (bedD B[at_.toNat]) := by rw [List.getElem?_map, List.getElem?_eq_getElem hk]; rfl
  walk_at "nf"
  refine ⟨_, at_int a0 e1, ?_⟩
  refine ⟨_, _, rfl, hb2, hBw _ (List.getElem_mem hk), fun d t3 hd hdb hb3 => ?_⟩
  walk_at "nf"
  refine ⟨rfl, at_.toNat, by rw [List.length_map, ixN_of (by omega) (by omega)], ?_⟩
  refine h _ t3 ((gd_lst (n := 6) (m := 6) (k := 20000) (fun x hx => ?_) (by rw [List.length_set, List.length_map]; exact hBl.2)).mono (by decide)) (beds_bad (o := d) ?_ hdb) hb3
  · rcases List.mem_or_eq_of_mem_set hx with q | rfl
    · obtain ⟨b, hb, rfl⟩ := List.mem_map.mp q
      exact (gd_bed (n := 4) (hBw b hb)).mono (by decide)
    · exact hd.up (by decide)
  · exact List.mem_set (by rw [List.length_map]; exact hk) _
theorem ok_wrongs (Df : DefAt K mg "_law_wrongs" s_wrongs ["_law_bag_here", "_law_length", "_law_width", "_law_beds"]) (B : Bt mg) (SB : Sys base) (C_take : Callee P w K mg base 1 "_law_take" ["_law_bag_here", "_law_many"] [0] takeX) (C_bad_measure : Callee P w K mg base 2 "_law_bad_measure" ["_law_bag_here"] [0] bmeasX) (C_bad_beds : Callee P w K mg base 4 "_law_bad_beds" ["_law_bag_here", "_law_beds"] [0] bbedsX) (C_alike : Callee P w K mg base 1 "_law_alike" ["_law_found", "_law_due_here"] [] alikeS) (C_made : Callee P w K mg base 9 "_law_made" ["_law_length", "_law_width", "_law_beds"] [] lmadeX) : Callee P w K mg base 10 "_law_wrongs" ["_law_bag_here", "_law_length", "_law_width", "_law_beds"] [0] wrongsX := by
  refine callee_of Df sc_wrongs (by decide) (by decide) fun f cdv A outer s H EX W hr hG tk hp => ?_
  refine ⟨_, (ss_cons (s_for hp rfl (i_tup (q_tup (a_cons q_int (a_cons q_int (a_cons q_int (a_cons q_int (a_cons q_int (a_cons q_int a_nil)))))))) (g_name 4 sc_wrongs.nd) (ss_cons (s_set 5 (q_lst (a_cons (p_nm 1).val (a_cons (p_nm 2).val (a_cons (p_nm 3).val a_nil)))) sc_wrongs.nd)
      (ss_cons (s_for hp rfl (i_rng2 (by rfl) B.range (p_nm 4).val q_int) (g_name 6 sc_wrongs.nd) (ss_one (s_if ((w_or (t_eq (hu65 hr) (p_nm 6) (p_nm 4)) (w_or1 (t_eq (hu65 hr) ((q_callC C_take tk (hr.mono (by decide)) hG (by rfl) (a_own 0 (a_cons q_int a_nil)) [0])).p (q_int).p)))).t (ss_one (s_if (t_lt (p_nm 6) (q_int).p) (ss_one (s_store 5 (q_callC C_bad_measure tk (hr.mono (by decide)) hG (by rfl) (a_own 0 a_nil) [0]) (p_nm 6).val)) (ss_one (s_store 5 (q_callC C_bad_beds tk (hr.mono (by decide)) hG (by rfl) (a_own 0 (a_cons (p_nm 3).val a_nil)) [0]) (p_nm 6).val)))) ss_nil)))
      (ss_cons (s_set 7 (q_b1 (c_reprX SB hG (hu66 hr)) g_reprX (by rfl) B.repr bt_repr (p_nm 5)) sc_wrongs.nd)
      (ss_one (s_for hp rfl (i_rng (by rfl) B.range q_int) (g_name 8 sc_wrongs.nd) (ss_one (s_if ((w_orM (t_not (t_val (q_callC C_alike tk (hr.mono (by decide)) hG (by rfl) (a_cons (q_callC C_made tk (hr.mono (by decide)) hG (by rfl) (a_cons (q_ixA (hu65 hr) (p_nm 5) (q_int).p) (a_cons (q_ixA (hu65 hr) (p_nm 5) (q_int).p) (a_cons (q_ixA (hu65 hr) (p_nm 5) (q_int).p) a_nil))) []) (a_cons (q_tup (a_cons q_str (a_cons (p_nm 4).val a_nil))) a_nil)) []))) (w_or1 (t_ne (hu65 hr) ((q_b1 (c_reprX SB hG (hu66 hr)) g_reprX (by rfl) B.repr bt_repr (p_nm 5))).p (p_nm 7))))).t (ss_one (s_ret q_bl)) ss_nil))))))))
      (ss_one (s_ret q_bl))), fun args Q E hl h => ?_⟩
  clear hl hr hG tk hp W EX H s outer A cdv f Df B SB C_take C_bad_measure C_bad_beds C_alike C_made
  obtain ⟨t, L, W, B, rfl, hb, hB, h⟩ := h
  walk_at "nf"
  refine .fr [0, 4, 5, 6, 7, 8] (fun j vs => ∃ (t : T) (a b c d e : Option T), vs = [some t, a, b, c, d, e] ∧ IsBag t) ⟨[_, _, _, _, _, _], rfl, t, _, _, _, _, _, rfl, hb⟩ ?_ ?_
  · rintro j d vs hd ⟨t, a, b, c, d2, e, rfl, hb⟩
    have hat : ∃ n : Nat, n < 3 ∧ d = .int n := by
      have hm := List.mem_of_getElem? hd
      simp at hm
      rcases hm with rfl | rfl | rfl
      · exact ⟨0, by decide, rfl⟩
      · exact ⟨1, by decide, rfl⟩
      · exact ⟨2, by decide, rfl⟩
    obtain ⟨n, hn, rfl⟩ := hat
    walk_at "nf"
    refine ⟨by omega, by omega, by omega, by omega, szI (by omega), ?_⟩
    refine .fr [0, 5, 6] (fun i vs => ∃ (t : T) (ds : List D) (x : Option T), vs = [some t, some (.ow .lst ds), x] ∧ IsBag t ∧ thgs n i ds) ⟨[_, _, _], rfl, t, _, _, rfl, hb, thgs0 hB⟩ ?_ ?_
    · rintro i d vs hd ⟨t, ds, x, rfl, hb, ht⟩
      obtain ⟨hi, rfl⟩ := rngD_get hd
      walk_at "nf"
      have hni : n + i < 3 := by omega
      refine ⟨.inl rfl, fun z => ?_, fun z => ?_⟩
      · refine ⟨fun _ => ?_, fun z => nomatch z⟩
        walk_at "nf"
        refine ⟨fun z2 => ?_, fun z2 => ?_⟩
        · have z3 : n + i < 2 := by have := of_decide_eq_true z2; omega
          refine ⟨_, rfl, hb, fun d t3 hd hdb hb3 => ?_⟩
          refine ⟨rfl, n + i, by rw [ht.1, ixN_of (by omega) (by omega)]; congr 1 <;> omega, ?_⟩
          exact ⟨[_, _, _], rfl, t3, _, _, rfl, hb3, thgs_set ht (by rw [if_pos z3]; exact hd.up (by decide)) (by unfold rgt; rw [if_pos z3]; exact hdb)⟩
        · have z3 : ¬ n + i < 2 := by have := of_decide_eq_false z2; omega
          refine ⟨_, L, W, B, rfl, hb, hB, fun d t3 hd hdb hb3 => ?_⟩
          refine ⟨rfl, n + i, by rw [ht.1, ixN_of (by omega) (by omega)]; congr 1 <;> omega, ?_⟩
          exact ⟨[_, _, _], rfl, t3, _, _, rfl, hb3, thgs_set ht (by rw [if_neg z3]; exact hd) (by unfold rgt; rw [if_neg z3]; exact hdb)⟩
      · have hi1 : 1 ≤ i := by
          have z : decide ((n : Int) + (i : Int) = (n : Int)) = false := z
          have := of_decide_eq_false z
          omega
        refine ⟨_, _, rfl, hb, by decide, by decide, fun v t2 v0 v1 hb2 => ?_⟩
        refine ⟨.inl rfl, fun z => ?_, fun z => ⟨[_, _, _], rfl, t2, _, _, rfl, hb2, thgs_skip ht hi1⟩⟩
        walk_at "nf"
        refine ⟨fun z2 => ?_, fun z2 => ?_⟩
        · have z3 : n + i < 2 := by have := of_decide_eq_true z2; omega
          refine ⟨_, rfl, hb2, fun d t3 hd hdb hb3 => ?_⟩
          refine ⟨rfl, n + i, by rw [ht.1, ixN_of (by omega) (by omega)]; congr 1 <;> omega, ?_⟩
          exact ⟨[_, _, _], rfl, t3, _, _, rfl, hb3, thgs_set ht (by rw [if_pos z3]; exact hd.up (by decide)) (by unfold rgt; rw [if_pos z3]; exact hdb)⟩
        · have z3 : ¬ n + i < 2 := by have := of_decide_eq_false z2; omega
          refine ⟨_, L, W, B, rfl, hb2, hB, fun d t3 hd hdb hb3 => ?_⟩
          refine ⟨rfl, n + i, by rw [ht.1, ixN_of (by omega) (by omega)]; congr 1 <;> omega, ?_⟩
          exact ⟨[_, _, _], rfl, t3, _, _, rfl, hb3, thgs_set ht (by rw [if_neg z3]; exact hd) (by unfold rgt; rw [if_neg z3]; exact hdb)⟩
    rintro vs ⟨t, ds, x, rfl, hb, ht⟩
    walk_at "nf"
    have hl : (rngD (n : Int) (3 - (n : Int)).toNat).length = 3 - n := by rw [rngD_len]; omega
    rw [hl] at ht
    obtain ⟨a, b, c, rfl, ga, gb, gc, hff⟩ := thgs_end ht (by omega) hn
    obtain ⟨p8, sx⟩ := shw3 ga gb gc
    refine ⟨p8, sx, ?_⟩
    walk_at "nf"
    refine ⟨by decide, by decide, ?_⟩
    refine .rng [8] (fun j vs => ∃ x, vs = [x]) ⟨[_], rfl, _, rfl⟩ ?_ ?_
    · rintro j3 vs hj3 ⟨z, rfl⟩
      walk_at "nf"
      refine ⟨_, at_int (by decide) rfl, _, at_int (by decide) rfl, _, at_int (by decide) rfl, ?_⟩
      refine ⟨a, b, c, rfl, ⟨⟨_, _, ga, by decide⟩, ⟨_, _, gb, by decide⟩, ⟨_, _, gc, by decide⟩⟩, .inl ⟨n, hff, ?_⟩⟩
      refine ⟨_, rfl, (al_wD (i := (n : Nat)) (by omega)).1, (al_wD (i := (n : Nat)) (by omega)).2, ?_⟩
      refine ⟨false, fun _ => ⟨p8, sx, .inl rfl, by simp [eqD, T.d], rfl⟩, fun z => (nomatch z), fun _ => ⟨[_], rfl, _, rfl⟩⟩
    · rintro vs ⟨z, rfl⟩
      exact ⟨[_, _, _, _, _, _], rfl, _, _, _, _, _, _, rfl, hb⟩
  · rintro vs ⟨t, a, b, c, d2, e, rfl, hb⟩
    exact h t hb
theorem ok_pieces_refused (Df : DefAt K mg "_law_pieces_refused" s_pieces_refused ["_law_bag_here", "_law_bench_here"]) (B : Bt mg) (KC_Bench : Cls K (ca "Bench")) (KN_Bench : ∀ x, x ∈ (["kept_beds", "kept_pieces", "long_and_wide", "top"] : List Str) → NoAttr K (ca "Bench") x) (C_Bench_many : CalleeM P w K mg base 1 (ca "Bench") "many" ["self"] [] (manyS ca)) (C_take : Callee P w K mg base 1 "_law_take" ["_law_bag_here", "_law_many"] [0] takeX) (C_Bench_piece_at : CalleeM P w K mg base 6 (ca "Bench") "piece_at" ["self", "point"] [] (pieceAtX ca)) (C_alike : Callee P w K mg base 1 "_law_alike" ["_law_found", "_law_due_here"] [] alikeS) (C_asked : Callee P w K mg base 7 "_law_asked" ["_law_bench_here", "_law_word", "_law_thing"] [] (askedX ca)) : Callee P w K mg base 8 "_law_pieces_refused" ["_law_bag_here", "_law_bench_here"] [0] (piecesX ca) := by
  refine callee_of Df sc_pieces_refused (by decide) (by decide) fun f cdv A outer s H EX W hr hG tk hp => ?_
  refine ⟨_, (ss_cons (s_set 2 (q_meth0 C_Bench_many KC_Bench tk (hr.mono (by decide)) hG (p_nm 1).val) sc_pieces_refused.nd)
      (ss_cons (s_set 3 (q_callC C_take tk (hr.mono (by decide)) hG (by rfl) (a_own 0 (a_cons (q_pow (q_int).p (q_int).p) a_nil)) [0]) sc_pieces_refused.nd)
      (ss_cons (s_set 4 ((q_lst (a_cons q_int (a_cons (q_neg (q_int).p) (a_cons (q_add (p_nm 2) (q_int).p) (a_cons (q_add ((q_add (p_nm 2) (q_int).p)).p ((q_callC C_take tk (hr.mono (by decide)) hG (by rfl) (a_own 0 (a_cons q_int a_nil)) [0])).p) (a_cons (q_sub ((q_neg (q_int).p)).p (p_nm 3)) (a_cons (q_add (q_int).p (p_nm 3)) a_nil)))))))).fz sc_pieces_refused.nd)
      (ss_cons (s_set 5 ((q_lst (a_cons q_bl (a_cons q_bl (a_cons q_non (a_cons q_str (a_cons ((q_lst (a_cons q_int a_nil))).fz (a_cons (q_tup (a_cons q_int a_nil)) (a_cons (q_dict0).fz (a_cons q_str a_nil)))))))))).fz sc_pieces_refused.nd)
      (ss_cons (s_for hp rfl (i_list ((q_lst (a_cons q_str (a_cons q_str (a_cons q_str (a_cons q_str a_nil)))))).fz) (g_name 6 sc_pieces_refused.nd) (ss_cons (s_for hp rfl (i_list (p_nm 4).val) (g_name 7 sc_pieces_refused.nd) (ss_one (s_if (t_not (t_val (q_callC C_alike tk (hr.mono (by decide)) hG (by rfl) (a_cons (q_callC C_asked tk (hr.mono (by decide)) hG (by rfl) (a_cons (p_nm 1).val (a_cons (p_nm 6).val (a_cons (p_nm 7).val a_nil))) []) (a_cons (q_tup (a_cons q_str (a_cons (p_nm 7).val a_nil))) a_nil)) []))) (ss_one (s_ret q_bl)) ss_nil)))
      (ss_one (s_for hp rfl (i_list (p_nm 5).val) (g_name 8 sc_pieces_refused.nd) (ss_one (s_for hp rfl (i_rng (by rfl) B.range q_int) (g_name 9 sc_pieces_refused.nd) (ss_one (s_if (t_not (t_val (q_callC C_alike tk (hr.mono (by decide)) hG (by rfl) (a_cons (q_callC C_asked tk (hr.mono (by decide)) hG (by rfl) (a_cons (p_nm 1).val (a_cons (p_nm 6).val (a_cons (p_nm 8).val a_nil))) []) (a_cons (q_tup (a_cons q_str (a_cons q_int a_nil))) a_nil)) []))) (ss_one (s_ret q_bl)) ss_nil))))))))
      (ss_cons (s_expr (q_meth C_Bench_piece_at KC_Bench tk (hr.mono (by decide)) hG (p_nm 1).val (a_cons (q_tup (a_cons q_int (a_cons q_int (a_cons q_int a_nil)))) a_nil) []))
      (ss_cons (s_set 10 (q_ixA (hu65 hr) ((q_lst (a_cons (q_neg (q_int).p) (a_cons q_int (a_cons q_bl (a_cons q_bl (a_cons q_non (a_cons q_str (a_cons ((q_lst (a_cons q_int a_nil))).fz (a_cons (q_tup (a_cons q_int a_nil)) (a_cons (q_pow (q_int).p (q_int).p) a_nil))))))))))).p ((q_callC C_take tk (hr.mono (by decide)) hG (by rfl) (a_own 0 (a_cons q_int a_nil)) [0])).p) sc_pieces_refused.nd)
      (ss_cons (s_set 11 (q_lst (a_cons q_int (a_cons q_int (a_cons q_int a_nil)))) sc_pieces_refused.nd)
      (ss_cons (s_store 11 (p_nm 10).val (q_callC C_take tk (hr.mono (by decide)) hG (by rfl) (a_own 0 (a_cons q_int a_nil)) [0]))
      (ss_cons (s_set 12 ((q_lst (a_cons (q_ty1 call_tuple_of g_tuple (by rfl) B.tuple bt_tuple (p_nm 11)) (a_cons (q_tup (a_cons q_bl (a_cons q_int (a_cons q_int a_nil)))) (a_cons (q_tup (a_cons q_int (a_cons q_bl (a_cons q_int a_nil)))) (a_cons (q_tup (a_cons q_int (a_cons q_int (a_cons q_bl a_nil)))) (a_cons ((q_lst (a_cons q_int (a_cons q_int (a_cons q_int a_nil))))).fz (a_cons (q_tup (a_cons q_int (a_cons q_int a_nil))) (a_cons (q_tup (a_cons q_int (a_cons q_int (a_cons q_int (a_cons q_int a_nil))))) (a_cons q_non (a_cons q_int (a_cons q_str a_nil)))))))))))).fz sc_pieces_refused.nd)
      (ss_cons (s_for hp rfl (i_list ((q_add (p_nm 12) ((q_lst (a_cons q_bl (a_cons (q_tup a_nil) (a_cons (q_dict0).fz a_nil))))).p)).fz) (g_name 8 sc_pieces_refused.nd) (ss_one (s_for hp rfl (i_rng (by rfl) B.range q_int) (g_name 9 sc_pieces_refused.nd) (ss_one (s_if (t_not (t_val (q_callC C_alike tk (hr.mono (by decide)) hG (by rfl) (a_cons (q_callC C_asked tk (hr.mono (by decide)) hG (by rfl) (a_cons (p_nm 1).val (a_cons q_str (a_cons (p_nm 8).val a_nil))) []) (a_cons (q_tup (a_cons q_str (a_cons q_int a_nil))) a_nil)) []))) (ss_one (s_ret q_bl)) ss_nil)))))
      (ss_one (s_ret q_bl))))))))))))), fun args Q E hl h => ?_⟩
  clear hl hr hG tk hp W EX H s outer A cdv f Df B KC_Bench KN_Bench C_Bench_many C_take C_Bench_piece_at C_alike C_asked
  obtain ⟨t, L, W, B, rfl, hb, hB, h⟩ := h
  have hpl := pcs_len (L := L) (W := W) (B := B) (z := 0)
  have hp2 := hB.2.2.2.2.2
  have hp1 := many_pos hB.2.2.1.1
  obtain ⟨N, hN⟩ : ∃ N : Nat, N = (pcsF L W B 0).length := ⟨_, rfl⟩
  walk_at "nf"
  refine ⟨⟨rfl, rfl⟩, L, W, B, rfl, ?_⟩
  rw [← hN]
  walk_at "nf"
  refine ⟨show CPow _ _ from ⟨by decide, by decide, by decide⟩, ?_⟩
  refine ⟨_, _, rfl, hb, by decide, by decide, fun fa t1 f0 f1 hb1 => ?_⟩
  have f1 : fa < 100000000000000000000 := f1
  walk_at "nf"
  refine ⟨_, _, rfl, hb1, by decide, by decide, fun u t2 u0 u1 hb2 => ?_⟩
  walk_at "nf"
  refine .fr [6, 7, 8, 9] (fun j vs => ∃ a b c d, vs = [a, b, c, d]) ⟨[_, _, _, _], rfl, _, _, _, _, rfl⟩ ?_ ?_
  · rintro j d vs hd ⟨a, b, c, d2, rfl⟩
    have hw : ∃ w : Str, d = .str w ∧ (w = "box" ∨ w = "grain" ∨ w = "heavy") := by
      have hm := List.mem_of_getElem? hd
      simp at hm
      rcases hm with rfl | rfl | rfl | rfl
      · exact ⟨_, rfl, .inl rfl⟩
      · exact ⟨_, rfl, .inr (.inl rfl)⟩
      · exact ⟨_, rfl, .inr (.inr rfl)⟩
      · exact ⟨_, rfl, .inl rfl⟩
    obtain ⟨w, rfl, hw⟩ := hw
    walk_at "nf"
    refine .fr [7] (fun j vs => ∃ x, vs = [x]) ⟨[_], rfl, _, rfl⟩ ?_ ?_
    · rintro j2 d2 vs hd2 ⟨x, rfl⟩
      have hi : ∃ i : Int, d2 = .int i ∧ (i < 1 ∨ (N : Int) < i) ∧ i.natAbs ≤ 1000000000000000000000 := by
        have hm := List.mem_of_getElem? hd2
        simp at hm
        rcases hm with rfl | rfl | rfl | rfl | rfl | rfl
        · exact ⟨_, rfl, by omega, by omega⟩
        · exact ⟨_, rfl, by omega, by omega⟩
        · exact ⟨_, rfl, by omega, by omega⟩
        · exact ⟨_, rfl, by omega, by omega⟩
        · exact ⟨_, rfl, by omega, by omega⟩
        · exact ⟨_, rfl, by omega, by omega⟩
      obtain ⟨i, rfl, hi, hi2⟩ := hi
      rw [hN] at hi
      walk_at "nf"
      refine ⟨L, W, B, w, .int i, rfl, hB, rfl, .inl ⟨hw, .inr ⟨i, rfl, hi, ?_⟩⟩⟩
      refine ⟨_, rfl, (al_pD hi2).1, (al_pD hi2).2, ?_⟩
      exact ⟨fun z => (nomatch z), fun _ => ⟨[_], rfl, _, rfl⟩⟩
    rintro vs ⟨x, rfl⟩
    walk_at "nf"
    refine .fr [8, 9] (fun j vs => ∃ x y, vs = [x, y]) ⟨[_, _], rfl, _, _, rfl⟩ ?_ ?_
    · rintro j2 d2 vs hd2 ⟨x, y, rfl⟩
      have hi : tyA d2 = true ∧ whB d2 = false := by
        have hm := List.mem_of_getElem? hd2
        have := List.all_eq_true.mp (show ([D.bl true, .bl false, .non, .str "1", .nd .lst [.int 1], .nd .tup [.int 1], .nd (.dK []) [], .str ""].all fun d => tyA d && !whB d) = true by decide +kernel) d2 hm
        simpa using this
      walk_at "nf"
      refine ⟨by decide, by decide, ?_⟩
      refine .rng [9] (fun j vs => ∃ x, vs = [x]) ⟨[_], rfl, _, rfl⟩ ?_ ?_
      · rintro j3 vs hj3 ⟨z, rfl⟩
        walk_at "nf"
        refine ⟨L, W, B, w, d2, rfl, hB, hi.1, .inl ⟨hw, .inl ⟨hi.2, ?_⟩⟩⟩
        refine ⟨_, rfl, (al_wD (i := 0) (by decide)).1, (al_wD (i := 0) (by decide)).2, ?_⟩
        exact ⟨fun z => (nomatch z), fun _ => ⟨[_], rfl, _, rfl⟩⟩
      · rintro vs ⟨z, rfl⟩
        exact ⟨[_, _], rfl, _, _, rfl⟩
    · rintro vs ⟨x, y, rfl⟩
      exact ⟨[_, _, _, _], rfl, _, _, _, _, rfl⟩
  rintro vs ⟨a, b, c, d2, rfl⟩
  walk_at "nf"
  refine ⟨⟨rfl, rfl⟩, L, W, B, pt3 0 0 0, rfl, hB, rfl, .inr ⟨by decide, fun r => ?_⟩⟩
  walk_at "nf"
  refine ⟨show CPow _ _ from ⟨by decide, by decide, by decide⟩, ?_⟩
  refine ⟨_, _, rfl, hb2, by decide, by decide, fun ox t3 o0 o1 hb3 => ?_⟩
  refine at_all (C := fun d => gd 2 150 d ∧ btB d 0 1000000 = false) o0 o1 (gd_bads (p := fun d => btB d 0 1000000) (by decide +kernel)) ?_
  rintro o ⟨ho, hob⟩
  walk_at "nf"
  refine ⟨rfl, ?_⟩
  refine ⟨_, _, rfl, hb3, by decide, by decide, fun ix t4 i0 i1 hb4 => ?_⟩
  refine ⟨ix.toNat, ixN_of i0 i1, ?_⟩
  walk_at "nf"
  obtain ⟨ps, hps⟩ : ∃ ps, ps = [D.int 0, D.int 0, D.int 0].set ix.toNat o := ⟨_, rfl⟩
  have hpt : ptB (.nd .tup ps) = false ∧ tyA (.nd .tup ps) = true := by
    have q0 : ix = 0 ∨ ix = 1 ∨ ix = 2 := by omega
    have hty := ho.ty
    rcases q0 with rfl | rfl | rfl
    · have e : ps = [o, D.int 0, D.int 0] := hps
      rw [e]
      exact ⟨by show (btB o 0 1000000 && _) = false; rw [hob]; rfl, by simp only [tyA, List.all_cons, List.all_nil, hty]; rfl⟩
    · have e : ps = [D.int 0, o, D.int 0] := hps
      rw [e]
      exact ⟨by show (btB (.int 0) 0 1000000 && (btB o 0 1000000 && btB (.int 0) 0 1000000)) = false; rw [hob]; simp, by simp only [tyA, List.all_cons, List.all_nil, hty]; rfl⟩
    · have e : ps = [D.int 0, D.int 0, o] := hps
      rw [e]
      exact ⟨by show (btB (.int 0) 0 1000000 && (btB (.int 0) 0 1000000 && btB o 0 1000000)) = false; rw [hob]; simp, by simp only [tyA, List.all_cons, List.all_nil, hty]; rfl⟩
  rw [← hps]
  walk_at "nf"
  refine ⟨szN (by simp), ?_⟩
  refine .fr [8, 9] (fun j vs => ∃ x y, vs = [x, y]) ⟨[_, _], rfl, _, _, rfl⟩ ?_ ?_
  · rintro j2 d2 vs hd2 ⟨x, y, rfl⟩
    have hi : ptB d2 = false ∧ tyA d2 = true := by
      have hm := List.mem_of_getElem? hd2
      have hm : d2 ∈ [D.nd .tup ps, .nd .tup [.bl false, .int 0, .int 0], .nd .tup [.int 0, .bl false, .int 0], .nd .tup [.int 0, .int 0, .bl false], .nd .lst [.int 0, .int 0, .int 0], .nd .tup [.int 0, .int 0], .nd .tup [.int 0, .int 0, .int 0, .int 0], .non, .int 0, .str "000", .bl true, .nd .tup [], .nd (.dK []) []] := hm
      rcases List.mem_cons.mp hm with rfl | hm
      · exact hpt
      · have := List.all_eq_true.mp (show ([D.nd .tup [.bl false, .int 0, .int 0], .nd .tup [.int 0, .bl false, .int 0], .nd .tup [.int 0, .int 0, .bl false], .nd .lst [.int 0, .int 0, .int 0], .nd .tup [.int 0, .int 0], .nd .tup [.int 0, .int 0, .int 0, .int 0], .non, .int 0, .str "000", .bl true, .nd .tup [], .nd (.dK []) []].all fun d => !ptB d && tyA d) = true by decide +kernel) d2 hm
        simpa using this
    walk_at "nf"
    refine ⟨by decide, by decide, ?_⟩
    refine .rng [9] (fun j vs => ∃ x, vs = [x]) ⟨[_], rfl, _, rfl⟩ ?_ ?_
    · rintro j3 vs hj3 ⟨z, rfl⟩
      walk_at "nf"
      refine ⟨L, W, B, "point", d2, rfl, hB, hi.2, .inr ⟨rfl, hi.1, ?_⟩⟩
      refine ⟨_, rfl, (al_wD (i := 0) (by decide)).1, (al_wD (i := 0) (by decide)).2, ?_⟩
      exact ⟨fun z => (nomatch z), fun _ => ⟨[_], rfl, _, rfl⟩⟩
    · rintro vs ⟨z, rfl⟩
      exact ⟨[_, _], rfl, _, _, rfl⟩
  · rintro vs ⟨x, y, rfl⟩
    exact h t4 hb4
theorem ok_edges (Df : DefAt K mg "_law_edges" s_edges ["_law_bag_here"]) (B : Bt mg) (C_take : Callee P w K mg base 1 "_law_take" ["_law_bag_here", "_law_many"] [0] takeX) : Callee P w K mg base 2 "_law_edges" ["_law_bag_here"] [0] edgesX := by
  refine callee_of Df sc_edges (by decide) (by decide) fun f cdv A outer s H EX W hr hG tk hp => ?_
  refine ⟨_, (ss_cons (s_set 1 (q_mulS ((q_ixA (hu65 hr) (q_str).p ((q_callC C_take tk (hr.mono (by decide)) hG (by rfl) (a_own 0 (a_cons q_int a_nil)) [0])).p)).p ((q_add (q_int).p ((q_callC C_take tk (hr.mono (by decide)) hG (by rfl) (a_own 0 (a_cons q_int a_nil)) [0])).p)).p) sc_edges.nd)
      (ss_cons (s_set 2 ((q_lrng2 rfl (by rfl) B.list (by rfl) B.range q_int q_int)).fz sc_edges.nd)
      (ss_cons (s_set 3 ((q_lst (a_cons (q_tup (a_cons q_int (a_cons (p_nm 1).val (a_cons q_int (a_cons ((q_lst a_nil)).fz (a_cons ((q_lst a_nil)).fz a_nil)))))) (a_cons (q_tup (a_cons q_int (a_cons (p_nm 1).val (a_cons q_int (a_cons ((q_lst (a_cons q_int a_nil))).fz (a_cons ((q_lst (a_cons q_int a_nil))).fz a_nil)))))) (a_cons (q_tup (a_cons q_int (a_cons (p_nm 1).val (a_cons q_int (a_cons ((q_lst a_nil)).fz (a_cons ((q_lst a_nil)).fz a_nil)))))) a_nil))))).fz sc_edges.nd)
      (ss_cons (s_set 4 (q_tup (a_cons q_int (a_cons (p_nm 1).val (a_cons q_int (a_cons (p_nm 2).val (a_cons ((q_lst a_nil)).fz a_nil)))))) sc_edges.nd)
      (ss_cons (s_set 5 (q_lst (a_cons ((q_slice (p_nm 3) o_none (o_some q_int))).fz (a_cons ((q_lst (a_cons (q_ixA (hu65 hr) (p_nm 3) (q_int).p) (a_cons (q_ixA (hu65 hr) (p_nm 3) (q_int).p) a_nil)))).fz (a_cons ((q_lst (a_cons (p_nm 4).val a_nil))).fz (a_cons ((q_lst (a_cons (p_nm 4).val (a_cons (q_ixA (hu65 hr) (p_nm 3) (q_int).p) a_nil)))).fz (a_cons ((q_lst (a_cons (q_tup (a_cons q_int (a_cons (p_nm 1).val (a_cons q_int (a_cons ((q_lst a_nil)).fz (a_cons (p_nm 2).val a_nil)))))) a_nil))).fz a_nil)))))) sc_edges.nd)
      (ss_cons (s_set 5 (q_add (p_nm 5) ((q_lst (a_cons ((q_lst (a_cons (q_tup (a_cons q_int (a_cons (p_nm 1).val (a_cons q_int (a_cons (p_nm 2).val (a_cons ((q_lst a_nil)).fz a_nil)))))) (a_cons (q_ixA (hu65 hr) (p_nm 3) (q_int).p) a_nil)))).fz (a_cons ((q_lst (a_cons (q_tup (a_cons q_int (a_cons (p_nm 1).val (a_cons q_int (a_cons ((q_lst (a_cons q_int a_nil))).fz (a_cons ((q_lst a_nil)).fz a_nil)))))) a_nil))).fz (a_cons ((q_lst (a_cons (q_tup (a_cons q_int (a_cons (p_nm 1).val (a_cons q_int (a_cons ((q_lst a_nil)).fz (a_cons ((q_lst (a_cons q_int a_nil))).fz a_nil)))))) a_nil))).fz a_nil))))).p) sc_edges.nd)
      (ss_cons (s_expr (q_append 5 (a_cons ((q_add ((q_mulL ((q_slice (p_nm 3) (o_some q_int) (o_some q_int))).p (q_int).p)).p ((q_lst (a_cons (q_tup (a_cons q_int (a_cons (p_nm 1).val (a_cons q_int (a_cons ((q_lst (a_cons q_int (a_cons q_int (a_cons q_int (a_cons q_int a_nil)))))).fz (a_cons ((q_lst a_nil)).fz a_nil)))))) a_nil))).p)).fz a_nil)))
      (ss_one (s_ret ((q_add (p_nm 5) ((q_lst (a_cons ((q_mulL ((q_slice (p_nm 3) (o_some q_int) (o_some q_int))).p (q_int).p)).fz (a_cons ((q_lst (a_cons (q_tup (a_cons q_int (a_cons (p_nm 1).val (a_cons q_int (a_cons ((q_lst a_nil)).fz (a_cons ((q_lst (a_cons q_int (a_cons q_int a_nil)))).fz a_nil)))))) a_nil))).fz (a_cons ((q_add ((q_mulL ((q_slice (p_nm 3) (o_some q_int) (o_some q_int))).p (q_int).p)).p ((q_lst (a_cons (q_tup (a_cons q_int (a_cons (p_nm 1).val (a_cons q_int (a_cons ((q_lst (a_cons q_int (a_cons q_int a_nil)))).fz (a_cons ((q_lst (a_cons q_int a_nil))).fz a_nil)))))) a_nil))).p)).fz a_nil))))).p)).fz))))))))), fun args Q E hl h => ?_⟩
  clear hl hr hG tk hp W EX H s outer A cdv f Df B C_take
  obtain ⟨t, rfl, hb, h⟩ := h
  walk_at "nf"
  refine ⟨_, _, rfl, hb, by decide, by decide, fun cx t1 c0 c1 hb1 => ?_⟩
  refine ⟨szN (by decide), at_all (C := fun c => c ∈ abcL) c0 c1 (fun c hc => hc) fun c hc => ?_⟩
  refine ⟨_, _, rfl, hb1, by decide, by decide, fun m t2 m0 m1 hb2 => ?_⟩
  refine ⟨⟨by omega, by omega⟩, show 1 ≤ 1000 by decide, ?_⟩
  obtain ⟨gr, hgr⟩ : ∃ gr, gr = repS ⟨#[c]⟩ (1 + m).toNat := ⟨_, rfl⟩
  have hg : gLet gr := by rw [hgr]; exact repS_let hc (by omega) (by omega)
  rw [← hgr]
  walk_at "nf"
  refine ⟨by decide, by decide, by decide, ?_⟩
  walk_at "nf"
  refine ⟨_, at_int (by decide) rfl, _, at_int (by decide) rfl, _, at_int (by decide) rfl, ?_⟩
  walk_at "nf"
  refine ⟨_, at_int (by decide) rfl, szN (by simp), ?_⟩
  walk_at "nf"
  refine ⟨rfl, _, rfl, ⟨by decide, by decide⟩, szN (show 1 * 5 ≤ 16777216 by decide), szN (show 5 + 1 ≤ 16777216 by decide), szL (show 8 < 16777216 by decide), ?_⟩
  walk_at "nf"
  refine ⟨_, rfl, ⟨by decide, by decide⟩, szN (show 1 * 6 ≤ 16777216 by decide), ?_⟩
  refine ⟨_, rfl, ⟨by decide, by decide⟩, szN (show 1 * 5 ≤ 16777216 by decide), szN (show 5 + 1 ≤ 16777216 by decide), szN (show 9 + 3 ≤ 16777216 by decide), ?_⟩
  exact h (edgeB gr) t2 (edge_weak hg) hb2
theorem ok_shown (Df : DefAt K mg "_law_shown" s_shown ["_law_bench_here"]) (B : Bt mg) (KC_Bench : Cls K (ca "Bench")) (KN_Bench : ∀ x, x ∈ (["kept_beds", "kept_pieces", "long_and_wide", "top"] : List Str) → NoAttr K (ca "Bench") x) (C_Bench_size : CalleeM P w K mg base 1 (ca "Bench") "size" ["self"] [] (sizeS ca)) (C_Bench_many : CalleeM P w K mg base 1 (ca "Bench") "many" ["self"] [] (manyS ca)) (C_Bench_beds : CalleeM P w K mg base 2 (ca "Bench") "beds" ["self"] [] (bedsS ca)) (C_Bench_box : CalleeM P w K mg base 4 (ca "Bench") "box" ["self", "piece"] [] (bboxX ca)) (C_Bench_grain : CalleeM P w K mg base 4 (ca "Bench") "grain" ["self", "piece"] [] (grnX ca)) (C_Bench_heavy : CalleeM P w K mg base 4 (ca "Bench") "heavy" ["self", "piece"] [] (hvyX ca)) : Callee P w K mg base 5 "_law_shown" ["_law_bench_here"] [] (shownX ca) := by
  refine callee_of Df sc_shown (by decide) (by decide) fun f cdv A outer s H EX W hr hG tk hp => ?_
  refine ⟨_, (ss_cons (s_set 1 (q_lst (a_cons (q_meth0 C_Bench_size KC_Bench tk (hr.mono (by decide)) hG (p_nm 0).val) (a_cons (q_meth0 C_Bench_many KC_Bench tk (hr.mono (by decide)) hG (p_nm 0).val) (a_cons (q_meth0 C_Bench_beds KC_Bench tk (hr.mono (by decide)) hG (p_nm 0).val) a_nil)))) sc_shown.nd)
      (ss_cons (s_for hp rfl (i_rng (by rfl) B.range (q_meth0 C_Bench_many KC_Bench tk (hr.mono (by decide)) hG (p_nm 0).val)) (g_name 2 sc_shown.nd) (ss_one (s_expr (q_append 1 (a_cons (q_tup (a_cons (q_meth C_Bench_box KC_Bench tk (hr.mono (by decide)) hG (p_nm 0).val (a_cons (q_add (p_nm 2) (q_int).p) a_nil) []) (a_cons (q_meth C_Bench_grain KC_Bench tk (hr.mono (by decide)) hG (p_nm 0).val (a_cons (q_add (p_nm 2) (q_int).p) a_nil) []) (a_cons (q_meth C_Bench_heavy KC_Bench tk (hr.mono (by decide)) hG (p_nm 0).val (a_cons (q_add (p_nm 2) (q_int).p) a_nil) []) a_nil)))) a_nil)))))
      (ss_one (s_ret (q_fzn 1))))), fun args Q E hl h => ?_⟩
  clear hl hr hG tk hp W EX H s outer A cdv f Df B KC_Bench KN_Bench C_Bench_size C_Bench_many C_Bench_beds C_Bench_box C_Bench_grain C_Bench_heavy
  obtain ⟨L, W, B, rfl, hB, h⟩ := h
  walk_at "nf"
  refine ⟨⟨rfl, rfl⟩, L, W, B, rfl, ?_⟩
  refine ⟨⟨rfl, rfl⟩, L, W, B, rfl, ?_⟩
  refine ⟨⟨rfl, rfl⟩, L, W, B, rfl, ?_⟩
  walk_at "nf"
  have hpl := pcs_len (L := L) (W := W) (B := B) (z := 0)
  have hp2 := hB.2.2.2.2.2
  refine ⟨⟨rfl, rfl⟩, L, W, B, rfl, ?_⟩
  refine ⟨szI (by omega), by omega, ?_⟩
  refine .rng [1, 2] (fun j vs => ∃ x, vs = [some (.ow .lst ([.nd .tup [.int L, .int W, .int (topF B)], .int ((pcsF L W B 0).length : Nat), bedsD B] ++ ((pcsF L W B 0).take j).map ppD)), x]) ⟨[_, _], rfl, _, by simp; rfl⟩ ?_ ?_
  · rintro j vs hj ⟨x, rfl⟩
    rw [Int.zero_add]
    have hj : j < (pcsF L W B 0).length := by omega
    have hp : (pcsF L W B 0)[j]? = some (pcsF L W B 0)[j] := List.getElem?_eq_getElem hj
    have pq : ∀ {R : Pc → Prop} {Wr : Prop} {No : Int → Prop}, R (pcsF L W B 0)[j] → pcIx L W B (.int ((j : Int) + 1)) Wr No R := fun hr => .inr ⟨_, rfl, .inr ⟨j, _, by omega, hp, hr⟩⟩
    walk_at "nf"
    refine ⟨rfl, ?_⟩
    refine ⟨⟨rfl, rfl⟩, L, W, B, _, rfl, rfl, pq ?_⟩
    refine ⟨⟨rfl, rfl⟩, L, W, B, _, rfl, rfl, pq ?_⟩
    refine ⟨⟨rfl, rfl⟩, L, W, B, _, rfl, rfl, pq ?_⟩
    refine ⟨szL (by simp; omega), ?_⟩
    exact ⟨[_, _], rfl, _, by rw [List.take_succ, hp, Option.toList_some, List.map_append, ← List.append_assoc]; exact rfl⟩
  · rintro vs ⟨x, rfl⟩
    walk_at "nf"
    rw [List.take_of_length_le (by omega)]
    exact h
theorem ok_law (Df : DefAt K mg "law" s_law ["_law_script"]) (B : Bt mg) (C_bag : Callee P w K mg base 1 "_law_bag" ["_law_script"] [] bagS) (C_bench : Callee P w K mg base 4 "_law_bench" ["_law_bag_here"] [0] lbenchS) (C_Bench_init : CalleeK P w K mg base 7 "Bench" (ca "Bench") ["self", "length", "width", "beds"] (initX ca)) (C_shown : Callee P w K mg base 5 "_law_shown" ["_law_bench_here"] [] (shownX ca)) (C_edges : Callee P w K mg base 2 "_law_edges" ["_law_bag_here"] [0] edgesX) (C_copy : Callee P w K mg base 1 "_law_copy" ["_law_beds"] [] copyX) (C_wild : Callee P w K mg base 4 "_law_wild" ["_law_bag_here"] [0] wildX) (C_due : Callee P w K mg base 1 "_law_due" ["_law_length", "_law_width", "_law_beds"] [] ldueX) (C_take : Callee P w K mg base 1 "_law_take" ["_law_bag_here", "_law_many"] [0] takeX) (C_alike : Callee P w K mg base 1 "_law_alike" ["_law_found", "_law_due_here"] [] alikeS) (C_wrongs : Callee P w K mg base 10 "_law_wrongs" ["_law_bag_here", "_law_length", "_law_width", "_law_beds"] [0] wrongsX) (C_pieces_refused : Callee P w K mg base 8 "_law_pieces_refused" ["_law_bag_here", "_law_bench_here"] [0] (piecesX ca)) (C_made : Callee P w K mg base 9 "_law_made" ["_law_length", "_law_width", "_law_beds"] [] lmadeX) : Callee P w K mg base 11 "law" ["_law_script"] [] (lawS 63) := by
  refine callee_of Df sc_law (by decide) (by decide) fun f cdv A outer s H EX W hr hG tk hp => ?_
  refine ⟨_, (ss_cons (s_set 1 (q_callC C_bag tk (hr.mono (by decide)) hG (by rfl) (a_cons (p_nm 0).val a_nil) []) sc_law.nd)
      (ss_cons (s_asgT (q_callC C_bench tk (hr.mono (by decide)) hG (by rfl) (a_own 1 a_nil) [1]) (g_tup (n := 3) rfl (gs_cons (g_name 2 sc_law.nd) (gs_cons (g_name 3 sc_law.nd) (gs_cons (g_name 4 sc_law.nd) gs_nil)))))
      (ss_cons (s_set 5 ((q_make C_Bench_init tk (hr.mono (by decide)) hG (by rfl) (a_cons (p_nm 2).val (a_cons (p_nm 3).val (a_cons ((q_callC C_copy tk (hr.mono (by decide)) hG (by rfl) (a_cons (p_nm 4).val a_nil) [])).fz a_nil))))).fz sc_law.nd)
      (ss_cons (s_set 6 (q_callC C_shown tk (hr.mono (by decide)) hG (by rfl) (a_cons (p_nm 5).val a_nil) []) sc_law.nd)
      (ss_cons (s_for hp rfl (i_rng (by rfl) B.range q_int) (g_name 7 sc_law.nd) (ss_cons (s_asgT (q_callC C_wild tk (hr.mono (by decide)) hG (by rfl) (a_own 1 a_nil) [1]) (g_tup (n := 3) rfl (gs_cons (g_name 8 sc_law.nd) (gs_cons (g_name 9 sc_law.nd) (gs_cons (g_name 10 sc_law.nd) gs_nil)))))
      (ss_cons (s_set 11 (q_callC C_due tk (hr.mono (by decide)) hG (by rfl) (a_cons (p_nm 8).val (a_cons (p_nm 9).val (a_cons (p_nm 10).val a_nil))) []) sc_law.nd)
      (ss_cons (s_for hp rfl (i_rng (by rfl) B.range q_int) (g_name 12 sc_law.nd) (ss_cons (s_set 13 ((q_callC C_copy tk (hr.mono (by decide)) hG (by rfl) (a_cons (p_nm 10).val a_nil) [])).fz sc_law.nd)
      (ss_one (s_if ((w_orM (t_not (t_val (q_callC C_alike tk (hr.mono (by decide)) hG (by rfl) (a_cons (q_callC C_made tk (hr.mono (by decide)) hG (by rfl) (a_cons (p_nm 8).val (a_cons (p_nm 9).val (a_cons (p_nm 13).val a_nil))) []) (a_cons (p_nm 11).val a_nil)) []))) (w_or1 (t_not (t_val (q_callC C_alike tk (hr.mono (by decide)) hG (by rfl) (a_cons (p_nm 13).val (a_cons (p_nm 10).val a_nil)) [])))))).t (ss_one (s_ret q_bl)) ss_nil))))
      (ss_one (s_if ((w_and (t_eq (hu65 hr) (p_nm 7) (q_int).p) (w_and1 (t_not (t_val (q_callC C_wrongs tk (hr.mono (by decide)) hG (by rfl) (a_own 1 (a_cons (p_nm 8).val (a_cons (p_nm 9).val (a_cons (p_nm 10).val a_nil)))) [1])))))).t (ss_one (s_ret q_bl)) ss_nil))))))
      (ss_cons (s_for hp rfl (i_list (q_callC C_edges tk (hr.mono (by decide)) hG (by rfl) (a_own 1 a_nil) [1])) (g_name 14 sc_law.nd) (ss_one (s_if (t_not (t_val (q_callC C_alike tk (hr.mono (by decide)) hG (by rfl) (a_cons (q_callC C_made tk (hr.mono (by decide)) hG (by rfl) (a_cons q_int (a_cons q_int (a_cons (p_nm 14).val a_nil))) []) (a_cons (q_callC C_due tk (hr.mono (by decide)) hG (by rfl) (a_cons q_int (a_cons q_int (a_cons (p_nm 14).val a_nil))) []) a_nil)) []))) (ss_one (s_ret q_bl)) ss_nil)))
      (ss_cons (s_set 15 (q_ixA (hu65 hr) ((q_lst (a_cons (p_nm 5).val (a_cons ((q_make C_Bench_init tk (hr.mono (by decide)) hG (by rfl) (a_cons (p_nm 2).val (a_cons (p_nm 3).val (a_cons ((q_callC C_copy tk (hr.mono (by decide)) hG (by rfl) (a_cons (p_nm 4).val a_nil) [])).fz a_nil))))).fz a_nil)))).p ((q_callC C_take tk (hr.mono (by decide)) hG (by rfl) (a_own 1 (a_cons q_int a_nil)) [1])).p) sc_law.nd)
      (ss_cons (s_if ((w_or (t_not (t_val (q_callC C_wrongs tk (hr.mono (by decide)) hG (by rfl) (a_own 1 (a_cons (p_nm 2).val (a_cons (p_nm 3).val (a_cons (p_nm 4).val a_nil)))) [1]))) (w_or1 (t_not (t_val (q_callC C_pieces_refused tk (hr.mono (by decide)) hG (by rfl) (a_own 1 (a_cons (p_nm 15).val a_nil)) [1])))))).t (ss_one (s_ret q_bl)) ss_nil)
      (ss_cons (s_if (t_not (t_val (q_callC C_alike tk (hr.mono (by decide)) hG (by rfl) (a_cons (q_callC C_shown tk (hr.mono (by decide)) hG (by rfl) (a_cons (p_nm 15).val a_nil) []) (a_cons (p_nm 6).val a_nil)) []))) (ss_one (s_ret q_bl)) ss_nil)
      (ss_one (s_ret (q_and (q_callC C_alike tk (hr.mono (by decide)) hG (by rfl) (a_cons (q_callC C_shown tk (hr.mono (by decide)) hG (by rfl) (a_cons (p_nm 5).val a_nil) []) (a_cons (p_nm 6).val a_nil)) []) (q_one (q_callC C_alike tk (hr.mono (by decide)) hG (by rfl) (a_cons (q_callC C_made tk (hr.mono (by decide)) hG (by rfl) (a_cons (p_nm 2).val (a_cons (p_nm 3).val (a_cons (p_nm 4).val a_nil))) []) (a_cons (q_tup (a_cons q_str a_nil)) a_nil)) [])))))))))))))), fun args Q E hl h => ?_⟩
  clear hl hr hG tk hp W EX H s outer A cdv f Df B C_bag C_bench C_Bench_init C_shown C_edges C_copy C_wild C_due C_take C_alike C_wrongs C_pieces_refused C_made
  obtain ⟨ns, rfl, hn, h⟩ := h
  walk_at "nf"
  refine ⟨ns, rfl, hn, fun t hb => ?_⟩
  walk_at "nf"
  refine ⟨_, rfl, hb, fun L W B t1 hB hb1 => ⟨rfl, ?_⟩⟩
  walk_at "nf"
  refine ⟨B, rfl, hB.2.2.1.2, ?_⟩
  walk_at "nf"
  refine ⟨.int L, .int W, bedsD B, rfl, gds_ok (ok_weak hB), .inr ⟨L, W, B, rfl, rfl, rfl, ok_weak hB, (fun k hk => by rw [ok_told hB] at hk; cases hk), (fun hk => by rw [ok_told hB] at hk; cases hk), fun _ _ => ?_⟩⟩
  refine ⟨rfl, _, rfl, ?_⟩
  walk_at "nf"
  refine ⟨L, W, B, rfl, hB, ?_⟩
  walk_at "nf"
  refine ⟨by decide, by decide, ?_⟩
  refine .rng [1, 7, 8, 9, 10, 11, 12, 13] (fun j vs => ∃ (t : T) (a b c d e f g : Option T), vs = [some t, a, b, c, d, e, f, g] ∧ IsBag t) ⟨[_, _, _, _, _, _, _, _], rfl, t1, _, _, _, _, _, _, _, rfl, hb1⟩ ?_ ?_
  · rintro j vs hj ⟨t, a, b, c, d, e, f, g, rfl, hb⟩
    rw [Int.zero_add]
    walk_at "nf"
    refine ⟨_, rfl, hb, fun L2 W2 B2 t2 hB2 hb2 => ⟨rfl, ?_⟩⟩
    walk_at "nf"
    refine ⟨L2, W2, B2, rfl, hB2, ?_⟩
    walk_at "nf"
    refine ⟨by decide, by decide, ?_⟩
    refine .rng [12, 13] (fun j vs => ∃ x y, vs = [x, y]) ⟨[_, _], rfl, _, _, rfl⟩ ?_ ?_
    · rintro j3 vs hj3 ⟨x, y, rfl⟩
      walk_at "nf"
      refine ⟨B2, rfl, hB2.2.2.1.2, ?_⟩
      walk_at "nf"
      refine ⟨.int L2, .int W2, bedsD B2, rfl, gds_ok hB2, .inr ⟨L2, W2, B2, rfl, rfl, rfl, hB2, ?_⟩⟩
      refine ⟨_, rfl, (al_rD hB2.2.2.1.2).1, (al_rD hB2.2.2.1.2).2, ?_⟩
      exact ⟨false, fun _ => ⟨_, rfl, (al_wb hB2.2.2.2 hB2.2.2.1.2).1, (al_wb hB2.2.2.2 hB2.2.2.1.2).2, rfl, rfl⟩, fun z => (nomatch z), fun _ => ⟨[_, _], rfl, _, _, rfl⟩⟩
    rintro vs ⟨x, y, rfl⟩
    walk_at "nf"
    refine ⟨.inl rfl, fun z => ?_, fun z => ⟨fun z => (nomatch z), fun _ => ⟨[_, _, _, _, _, _, _, _], rfl, t2, _, _, _, _, _, _, _, rfl, hb2⟩⟩⟩
    refine ⟨_, L2, W2, B2, rfl, hb2, hB2, fun t3 hb3 => ?_⟩
    refine ⟨fun z => (nomatch z), fun z => ⟨[_, _, _, _, _, _, _, _], rfl, t3, _, _, _, _, _, _, _, rfl, hb3⟩⟩
  rintro vs ⟨t, a, b, c, d, e, f, g, rfl, hb⟩
  walk_at "nf"
  refine ⟨_, rfl, hb, fun Bs t2 hBs hb2 => ?_⟩
  walk_at "nf"
  refine .over Bs bedsD rfl [14] (fun j vs => ∃ x, vs = [x]) ⟨[_], rfl, _, rfl⟩ ?_ ?_
  · rintro j2 B2 vs hB2 ⟨x, rfl⟩
    have hw := hBs B2 (List.mem_of_getElem? hB2)
    walk_at "nf"
    refine ⟨.int 24, .int 24, bedsD B2, rfl, gds_ok hw, .inr ⟨24, 24, B2, rfl, rfl, rfl, hw, ?_⟩⟩
    refine ⟨24, 24, B2, rfl, hw, ?_⟩
    refine ⟨_, rfl, (al_rD hw.2.2.1.2).1, (al_rD hw.2.2.1.2).2, ?_⟩
    exact ⟨fun z => (nomatch z), fun _ => ⟨[_], rfl, _, rfl⟩⟩
  rintro vs ⟨x, rfl⟩
  walk_at "nf"
  refine ⟨B, rfl, hB.2.2.1.2, ?_⟩
  refine ⟨.int L, .int W, bedsD B, rfl, gds_ok (ok_weak hB), .inr ⟨L, W, B, rfl, rfl, rfl, ok_weak hB, (fun k hk => by rw [ok_told hB] at hk; cases hk), (fun hk => by rw [ok_told hB] at hk; cases hk), fun _ _ => ?_⟩⟩
  refine ⟨rfl, _, rfl, ?_⟩
  refine ⟨_, _, rfl, hb2, by decide, by decide, fun ix t3 i0 i1 hb3 => ?_⟩
  refine at_all (C := fun d => d = benD ca L W B) i0 i1 (fun d hd => by
    simp only [List.mem_cons, List.not_mem_nil, or_false] at hd
    rcases hd with rfl | rfl <;> rfl) ?_
  rintro _ rfl
  walk_at "nf"
  refine ⟨_, L, W, B, rfl, hb3, ok_weak hB, fun t4 hb4 => ?_⟩
  refine ⟨fun z => (nomatch z), fun _ => ?_⟩
  refine ⟨_, L, W, B, rfl, hb4, hB, fun t5 hb5 => ?_⟩
  refine ⟨fun z => (nomatch z), fun _ => ?_⟩
  walk_at "nf"
  refine ⟨L, W, B, rfl, hB, ?_⟩
  refine ⟨_, rfl, (al_shown hB).1, (al_shown hB).2, ?_⟩
  refine ⟨fun z => (nomatch z), fun _ => ?_⟩
  walk_at "nf"
  refine ⟨L, W, B, rfl, hB, ?_⟩
  refine ⟨_, rfl, (al_shown hB).1, (al_shown hB).2, fun _ => ?_, fun z => nomatch z⟩
  refine ⟨.int L, .int W, bedsD B, rfl, gds_ok (ok_weak hB), .inr ⟨L, W, B, rfl, rfl, rfl, ok_weak hB, ?_⟩⟩
  have ha := al_rD (L := L) (W := W) (B := B) hB.2.2.1.2
  rw [ok_told hB] at ha ⊢
  refine ⟨_, rfl, ha.1, ha.2, ?_⟩
  exact h

end
theorem all_mk {P : Program} {w : World} {K : PySem.W.Frag} {h : Heap} {mg : Str → Option Value} (X : K.In h) (G : h.Ns mainGlobals mg) (base : Heap) (SB : Sys base)
    {D_Bench : Addr}
    {f0 : Addr} {od0 an0 : Option Addr} {sl0 : Array (Option Value)} {oc0 kV0 dc0 pm0 cd0 ct0 : Value}
    {f1 : Addr} {od1 an1 : Option Addr} {sl1 : Array (Option Value)} {oc1 kV1 dc1 pm1 cd1 ct1 : Value}
    {f2 : Addr} {od2 an2 : Option Addr} {sl2 : Array (Option Value)} {oc2 kV2 dc2 pm2 cd2 ct2 : Value}
    {f3 : Addr} {od3 an3 : Option Addr} {sl3 : Array (Option Value)} {oc3 kV3 dc3 pm3 cd3 ct3 : Value}
    {f4 : Addr} {od4 an4 : Option Addr} {sl4 : Array (Option Value)} {oc4 kV4 dc4 pm4 cd4 ct4 : Value}
    {f5 : Addr} {od5 an5 : Option Addr} {sl5 : Array (Option Value)} {oc5 kV5 dc5 pm5 cd5 ct5 : Value}
    {f6 : Addr} {od6 an6 : Option Addr} {sl6 : Array (Option Value)} {oc6 kV6 dc6 pm6 cd6 ct6 : Value}
    {f7 : Addr} {od7 an7 : Option Addr} {sl7 : Array (Option Value)} {oc7 kV7 dc7 pm7 cd7 ct7 : Value}
    {f8 : Addr} {od8 an8 : Option Addr} {sl8 : Array (Option Value)} {oc8 kV8 dc8 pm8 cd8 ct8 : Value}
    {f9 : Addr} {od9 an9 : Option Addr} {sl9 : Array (Option Value)} {oc9 kV9 dc9 pm9 cd9 ct9 : Value}
    {f10 : Addr} {od10 an10 : Option Addr} {sl10 : Array (Option Value)} {oc10 kV10 dc10 pm10 cd10 ct10 : Value}
    {f11 : Addr} {od11 an11 : Option Addr} {sl11 : Array (Option Value)} {oc11 kV11 dc11 pm11 cd11 ct11 : Value}
    {f12 : Addr} {od12 an12 : Option Addr} {sl12 : Array (Option Value)} {oc12 kV12 dc12 pm12 cd12 ct12 : Value}
    {f13 : Addr} {od13 an13 : Option Addr} {sl13 : Array (Option Value)} {oc13 kV13 dc13 pm13 cd13 ct13 : Value}
    {f14 : Addr} {od14 an14 : Option Addr} {sl14 : Array (Option Value)} {oc14 kV14 dc14 pm14 cd14 ct14 : Value}
    {f15 : Addr} {od15 an15 : Option Addr} {sl15 : Array (Option Value)} {oc15 kV15 dc15 pm15 cd15 ct15 : Value}
    {f16 : Addr} {od16 an16 : Option Addr} {sl16 : Array (Option Value)} {oc16 kV16 dc16 pm16 cd16 ct16 : Value}
    {f17 : Addr} {od17 an17 : Option Addr} {sl17 : Array (Option Value)} {oc17 kV17 dc17 pm17 cd17 ct17 : Value}
    {f18 : Addr} {od18 an18 : Option Addr} {sl18 : Array (Option Value)} {oc18 kV18 dc18 pm18 cd18 ct18 : Value}
    {f19 : Addr} {od19 an19 : Option Addr} {sl19 : Array (Option Value)} {oc19 kV19 dc19 pm19 cd19 ct19 : Value}
    {f20 : Addr} {od20 an20 : Option Addr} {sl20 : Array (Option Value)} {oc20 kV20 dc20 pm20 cd20 ct20 : Value}
    {f21 : Addr} {od21 an21 : Option Addr} {sl21 : Array (Option Value)} {oc21 kV21 dc21 pm21 cd21 ct21 : Value}
    {f22 : Addr} {od22 an22 : Option Addr} {sl22 : Array (Option Value)} {oc22 kV22 dc22 pm22 cd22 ct22 : Value}
    {f23 : Addr} {od23 an23 : Option Addr} {sl23 : Array (Option Value)} {oc23 kV23 dc23 pm23 cd23 ct23 : Value}
    {f24 : Addr} {od24 an24 : Option Addr} {sl24 : Array (Option Value)} {oc24 kV24 dc24 pm24 cd24 ct24 : Value}
    {f25 : Addr} {od25 an25 : Option Addr} {sl25 : Array (Option Value)} {oc25 kV25 dc25 pm25 cd25 ct25 : Value}
    {f26 : Addr} {od26 an26 : Option Addr} {sl26 : Array (Option Value)} {oc26 kV26 dc26 pm26 cd26 ct26 : Value}
    {f27 : Addr} {od27 an27 : Option Addr} {sl27 : Array (Option Value)} {oc27 kV27 dc27 pm27 cd27 ct27 : Value}
    {f28 : Addr} {od28 an28 : Option Addr} {sl28 : Array (Option Value)} {oc28 kV28 dc28 pm28 cd28 ct28 : Value}
    {f29 : Addr} {od29 an29 : Option Addr} {sl29 : Array (Option Value)} {oc29 kV29 dc29 pm29 cd29 ct29 : Value}
    {f30 : Addr} {od30 an30 : Option Addr} {sl30 : Array (Option Value)} {oc30 kV30 dc30 pm30 cd30 ct30 : Value}
    {f31 : Addr} {od31 an31 : Option Addr} {sl31 : Array (Option Value)} {oc31 kV31 dc31 pm31 cd31 ct31 : Value}
    {f32 : Addr} {od32 an32 : Option Addr} {sl32 : Array (Option Value)} {oc32 kV32 dc32 pm32 cd32 ct32 : Value}
    {f33 : Addr} {od33 an33 : Option Addr} {sl33 : Array (Option Value)} {oc33 kV33 dc33 pm33 cd33 ct33 : Value}
    {f34 : Addr} {od34 an34 : Option Addr} {sl34 : Array (Option Value)} {oc34 kV34 dc34 pm34 cd34 ct34 : Value}
    {f35 : Addr} {od35 an35 : Option Addr} {sl35 : Array (Option Value)} {oc35 kV35 dc35 pm35 cd35 ct35 : Value}
    {f36 : Addr} {od36 an36 : Option Addr} {sl36 : Array (Option Value)} {oc36 kV36 dc36 pm36 cd36 ct36 : Value}
    {f37 : Addr} {od37 an37 : Option Addr} {sl37 : Array (Option Value)} {oc37 kV37 dc37 pm37 cd37 ct37 : Value}
    {f38 : Addr} {od38 an38 : Option Addr} {sl38 : Array (Option Value)} {oc38 kV38 dc38 pm38 cd38 ct38 : Value}
    {f39 : Addr} {od39 an39 : Option Addr} {sl39 : Array (Option Value)} {oc39 kV39 dc39 pm39 cd39 ct39 : Value}
    {f40 : Addr} {od40 an40 : Option Addr} {sl40 : Array (Option Value)} {oc40 kV40 dc40 pm40 cd40 ct40 : Value}
    {f41 : Addr} {od41 an41 : Option Addr} {sl41 : Array (Option Value)} {oc41 kV41 dc41 pm41 cd41 ct41 : Value}
    {f42 : Addr} {od42 an42 : Option Addr} {sl42 : Array (Option Value)} {oc42 kV42 dc42 pm42 cd42 ct42 : Value}
    {f43 : Addr} {od43 an43 : Option Addr} {sl43 : Array (Option Value)} {oc43 kV43 dc43 pm43 cd43 ct43 : Value}
    {f44 : Addr} {od44 an44 : Option Addr} {sl44 : Array (Option Value)} {oc44 kV44 dc44 pm44 cd44 ct44 : Value}
    {f45 : Addr} {od45 an45 : Option Addr} {sl45 : Array (Option Value)} {oc45 kV45 dc45 pm45 cd45 ct45 : Value}
    {f46 : Addr} {od46 an46 : Option Addr} {sl46 : Array (Option Value)} {oc46 kV46 dc46 pm46 cd46 ct46 : Value}
    {f47 : Addr} {od47 an47 : Option Addr} {sl47 : Array (Option Value)} {oc47 kV47 dc47 pm47 cd47 ct47 : Value}
    {f48 : Addr} {od48 an48 : Option Addr} {sl48 : Array (Option Value)} {oc48 kV48 dc48 pm48 cd48 ct48 : Value}
    {f49 : Addr} {od49 an49 : Option Addr} {sl49 : Array (Option Value)} {oc49 kV49 dc49 pm49 cd49 ct49 : Value}
    (a0 : PySem.W.nsIn K mainGlobals "is_whole" = some (some (.ref f0))) (l0 : K.lookup f0 = some ⟨oc0, od0, .func (PySem.W.fnOf "is_whole" "is_whole" (defArgs s_is_whole) (defBody s_is_whole) (defScope s_is_whole) .none kV0 dc0 pm0 an0 cd0 ct0), sl0⟩) (c0 : PySem.W.codeIn K cd0 "is_whole" = true) (k0 : PySem.W.keepIn K (.ref f0) = true)
    (a1 : PySem.W.nsIn K mainGlobals "is_between" = some (some (.ref f1))) (l1 : K.lookup f1 = some ⟨oc1, od1, .func (PySem.W.fnOf "is_between" "is_between" (defArgs s_is_between) (defBody s_is_between) (defScope s_is_between) .none kV1 dc1 pm1 an1 cd1 ct1), sl1⟩) (c1 : PySem.W.codeIn K cd1 "is_between" = true) (k1 : PySem.W.keepIn K (.ref f1) = true)
    (a2 : PySem.W.nsIn K mainGlobals "are_between" = some (some (.ref f2))) (l2 : K.lookup f2 = some ⟨oc2, od2, .func (PySem.W.fnOf "are_between" "are_between" (defArgs s_are_between) (defBody s_are_between) (defScope s_are_between) .none kV2 dc2 pm2 an2 cd2 ct2), sl2⟩) (c2 : PySem.W.codeIn K cd2 "are_between" = true) (k2 : PySem.W.keepIn K (.ref f2) = true)
    (a3 : PySem.W.nsIn K mainGlobals "is_measure" = some (some (.ref f3))) (l3 : K.lookup f3 = some ⟨oc3, od3, .func (PySem.W.fnOf "is_measure" "is_measure" (defArgs s_is_measure) (defBody s_is_measure) (defScope s_is_measure) .none kV3 dc3 pm3 an3 cd3 ct3), sl3⟩) (c3 : PySem.W.codeIn K cd3 "is_measure" = true) (k3 : PySem.W.keepIn K (.ref f3) = true)
    (a4 : PySem.W.nsIn K mainGlobals "is_spot" = some (some (.ref f4))) (l4 : K.lookup f4 = some ⟨oc4, od4, .func (PySem.W.fnOf "is_spot" "is_spot" (defArgs s_is_spot) (defBody s_is_spot) (defScope s_is_spot) .none kV4 dc4 pm4 an4 cd4 ct4), sl4⟩) (c4 : PySem.W.codeIn K cd4 "is_spot" = true) (k4 : PySem.W.keepIn K (.ref f4) = true)
    (a5 : PySem.W.nsIn K mainGlobals "is_point" = some (some (.ref f5))) (l5 : K.lookup f5 = some ⟨oc5, od5, .func (PySem.W.fnOf "is_point" "is_point" (defArgs s_is_point) (defBody s_is_point) (defScope s_is_point) .none kV5 dc5 pm5 an5 cd5 ct5), sl5⟩) (c5 : PySem.W.codeIn K cd5 "is_point" = true) (k5 : PySem.W.keepIn K (.ref f5) = true)
    (a6 : PySem.W.nsIn K mainGlobals "is_grain" = some (some (.ref f6))) (l6 : K.lookup f6 = some ⟨oc6, od6, .func (PySem.W.fnOf "is_grain" "is_grain" (defArgs s_is_grain) (defBody s_is_grain) (defScope s_is_grain) .none kV6 dc6 pm6 an6 cd6 ct6), sl6⟩) (c6 : PySem.W.codeIn K cd6 "is_grain" = true) (k6 : PySem.W.keepIn K (.ref f6) = true)
    (a7 : PySem.W.nsIn K mainGlobals "is_box" = some (some (.ref f7))) (l7 : K.lookup f7 = some ⟨oc7, od7, .func (PySem.W.fnOf "is_box" "is_box" (defArgs s_is_box) (defBody s_is_box) (defScope s_is_box) .none kV7 dc7 pm7 an7 cd7 ct7), sl7⟩) (c7 : PySem.W.codeIn K cd7 "is_box" = true) (k7 : PySem.W.keepIn K (.ref f7) = true)
    (a8 : PySem.W.nsIn K mainGlobals "refuse_wrong" = some (some (.ref f8))) (l8 : K.lookup f8 = some ⟨oc8, od8, .func (PySem.W.fnOf "refuse_wrong" "refuse_wrong" (defArgs s_refuse_wrong) (defBody s_refuse_wrong) (defScope s_refuse_wrong) .none kV8 dc8 pm8 an8 cd8 ct8), sl8⟩) (c8 : PySem.W.codeIn K cd8 "refuse_wrong" = true) (k8 : PySem.W.keepIn K (.ref f8) = true)
    (a9 : PySem.W.nsIn K mainGlobals "has_point" = some (some (.ref f9))) (l9 : K.lookup f9 = some ⟨oc9, od9, .func (PySem.W.fnOf "has_point" "has_point" (defArgs s_has_point) (defBody s_has_point) (defScope s_has_point) .none kV9 dc9 pm9 an9 cd9 ct9), sl9⟩) (c9 : PySem.W.codeIn K cd9 "has_point" = true) (k9 : PySem.W.keepIn K (.ref f9) = true)
    (a10 : PySem.W.nsIn K mainGlobals "are_joints" = some (some (.ref f10))) (l10 : K.lookup f10 = some ⟨oc10, od10, .func (PySem.W.fnOf "are_joints" "are_joints" (defArgs s_are_joints) (defBody s_are_joints) (defScope s_are_joints) .none kV10 dc10 pm10 an10 cd10 ct10), sl10⟩) (c10 : PySem.W.codeIn K cd10 "are_joints" = true) (k10 : PySem.W.keepIn K (.ref f10) = true)
    (a11 : PySem.W.nsIn K mainGlobals "is_bed" = some (some (.ref f11))) (l11 : K.lookup f11 = some ⟨oc11, od11, .func (PySem.W.fnOf "is_bed" "is_bed" (defArgs s_is_bed) (defBody s_is_bed) (defScope s_is_bed) .none kV11 dc11 pm11 an11 cd11 ct11), sl11⟩) (c11 : PySem.W.codeIn K cd11 "is_bed" = true) (k11 : PySem.W.keepIn K (.ref f11) = true)
    (a12 : PySem.W.nsIn K mainGlobals "are_beds" = some (some (.ref f12))) (l12 : K.lookup f12 = some ⟨oc12, od12, .func (PySem.W.fnOf "are_beds" "are_beds" (defArgs s_are_beds) (defBody s_are_beds) (defScope s_are_beds) .none kV12 dc12 pm12 an12 cd12 ct12), sl12⟩) (c12 : PySem.W.codeIn K cd12 "are_beds" = true) (k12 : PySem.W.keepIn K (.ref f12) = true)
    (a13 : PySem.W.nsIn K mainGlobals "joints_stand" = some (some (.ref f13))) (l13 : K.lookup f13 = some ⟨oc13, od13, .func (PySem.W.fnOf "joints_stand" "joints_stand" (defArgs s_joints_stand) (defBody s_joints_stand) (defScope s_joints_stand) .none kV13 dc13 pm13 an13 cd13 ct13), sl13⟩) (c13 : PySem.W.codeIn K cd13 "joints_stand" = true) (k13 : PySem.W.keepIn K (.ref f13) = true)
    (a14 : PySem.W.nsIn K mainGlobals "stretches_of" = some (some (.ref f14))) (l14 : K.lookup f14 = some ⟨oc14, od14, .func (PySem.W.fnOf "stretches_of" "stretches_of" (defArgs s_stretches_of) (defBody s_stretches_of) (defScope s_stretches_of) .none kV14 dc14 pm14 an14 cd14 ct14), sl14⟩) (c14 : PySem.W.codeIn K cd14 "stretches_of" = true) (k14 : PySem.W.keepIn K (.ref f14) = true)
    (a15 : PySem.W.nsIn K mainGlobals "like_bed" = some (some (.ref f15))) (l15 : K.lookup f15 = some ⟨oc15, od15, .func (PySem.W.fnOf "like_bed" "like_bed" (defArgs s_like_bed) (defBody s_like_bed) (defScope s_like_bed) .none kV15 dc15 pm15 an15 cd15 ct15), sl15⟩) (c15 : PySem.W.codeIn K cd15 "like_bed" = true) (k15 : PySem.W.keepIn K (.ref f15) = true)
    (a16 : PySem.W.nsIn K mainGlobals "pieces_of" = some (some (.ref f16))) (l16 : K.lookup f16 = some ⟨oc16, od16, .func (PySem.W.fnOf "pieces_of" "pieces_of" (defArgs s_pieces_of) (defBody s_pieces_of) (defScope s_pieces_of) .none kV16 dc16 pm16 an16 cd16 ct16), sl16⟩) (c16 : PySem.W.codeIn K cd16 "pieces_of" = true) (k16 : PySem.W.keepIn K (.ref f16) = true)
    (a17 : PySem.W.findIn K (.ref D_Bench) "__init__" = some (some (.ref f17))) (i17 : PySem.W.isFn K (.ref f17) = true) (l17 : K.lookup f17 = some ⟨oc17, od17, .func (PySem.W.fnOf "__init__" "Bench.__init__" (defArgs s_Bench_init) (defBody s_Bench_init) (defScope s_Bench_init) .none kV17 dc17 pm17 an17 cd17 ct17), sl17⟩) (c17 : PySem.W.codeIn K cd17 "Bench.__init__" = true) (k17 : PySem.W.keepIn K (.ref f17) = true)
    (a18 : PySem.W.findIn K (.ref D_Bench) "size" = some (some (.ref f18))) (i18 : PySem.W.isFn K (.ref f18) = true) (l18 : K.lookup f18 = some ⟨oc18, od18, .func (PySem.W.fnOf "size" "Bench.size" (defArgs s_Bench_size) (defBody s_Bench_size) (defScope s_Bench_size) .none kV18 dc18 pm18 an18 cd18 ct18), sl18⟩) (c18 : PySem.W.codeIn K cd18 "Bench.size" = true) (k18 : PySem.W.keepIn K (.ref f18) = true)
    (a19 : PySem.W.findIn K (.ref D_Bench) "beds" = some (some (.ref f19))) (i19 : PySem.W.isFn K (.ref f19) = true) (l19 : K.lookup f19 = some ⟨oc19, od19, .func (PySem.W.fnOf "beds" "Bench.beds" (defArgs s_Bench_beds) (defBody s_Bench_beds) (defScope s_Bench_beds) .none kV19 dc19 pm19 an19 cd19 ct19), sl19⟩) (c19 : PySem.W.codeIn K cd19 "Bench.beds" = true) (k19 : PySem.W.keepIn K (.ref f19) = true)
    (a20 : PySem.W.findIn K (.ref D_Bench) "many" = some (some (.ref f20))) (i20 : PySem.W.isFn K (.ref f20) = true) (l20 : K.lookup f20 = some ⟨oc20, od20, .func (PySem.W.fnOf "many" "Bench.many" (defArgs s_Bench_many) (defBody s_Bench_many) (defScope s_Bench_many) .none kV20 dc20 pm20 an20 cd20 ct20), sl20⟩) (c20 : PySem.W.codeIn K cd20 "Bench.many" = true) (k20 : PySem.W.keepIn K (.ref f20) = true)
    (a21 : PySem.W.findIn K (.ref D_Bench) "piece_kept" = some (some (.ref f21))) (i21 : PySem.W.isFn K (.ref f21) = true) (l21 : K.lookup f21 = some ⟨oc21, od21, .func (PySem.W.fnOf "piece_kept" "Bench.piece_kept" (defArgs s_Bench_piece_kept) (defBody s_Bench_piece_kept) (defScope s_Bench_piece_kept) .none kV21 dc21 pm21 an21 cd21 ct21), sl21⟩) (c21 : PySem.W.codeIn K cd21 "Bench.piece_kept" = true) (k21 : PySem.W.keepIn K (.ref f21) = true)
    (a22 : PySem.W.findIn K (.ref D_Bench) "box" = some (some (.ref f22))) (i22 : PySem.W.isFn K (.ref f22) = true) (l22 : K.lookup f22 = some ⟨oc22, od22, .func (PySem.W.fnOf "box" "Bench.box" (defArgs s_Bench_box) (defBody s_Bench_box) (defScope s_Bench_box) .none kV22 dc22 pm22 an22 cd22 ct22), sl22⟩) (c22 : PySem.W.codeIn K cd22 "Bench.box" = true) (k22 : PySem.W.keepIn K (.ref f22) = true)
    (a23 : PySem.W.findIn K (.ref D_Bench) "grain" = some (some (.ref f23))) (i23 : PySem.W.isFn K (.ref f23) = true) (l23 : K.lookup f23 = some ⟨oc23, od23, .func (PySem.W.fnOf "grain" "Bench.grain" (defArgs s_Bench_grain) (defBody s_Bench_grain) (defScope s_Bench_grain) .none kV23 dc23 pm23 an23 cd23 ct23), sl23⟩) (c23 : PySem.W.codeIn K cd23 "Bench.grain" = true) (k23 : PySem.W.keepIn K (.ref f23) = true)
    (a24 : PySem.W.findIn K (.ref D_Bench) "heavy" = some (some (.ref f24))) (i24 : PySem.W.isFn K (.ref f24) = true) (l24 : K.lookup f24 = some ⟨oc24, od24, .func (PySem.W.fnOf "heavy" "Bench.heavy" (defArgs s_Bench_heavy) (defBody s_Bench_heavy) (defScope s_Bench_heavy) .none kV24 dc24 pm24 an24 cd24 ct24), sl24⟩) (c24 : PySem.W.codeIn K cd24 "Bench.heavy" = true) (k24 : PySem.W.keepIn K (.ref f24) = true)
    (a25 : PySem.W.findIn K (.ref D_Bench) "piece_at" = some (some (.ref f25))) (i25 : PySem.W.isFn K (.ref f25) = true) (l25 : K.lookup f25 = some ⟨oc25, od25, .func (PySem.W.fnOf "piece_at" "Bench.piece_at" (defArgs s_Bench_piece_at) (defBody s_Bench_piece_at) (defScope s_Bench_piece_at) .none kV25 dc25 pm25 an25 cd25 ct25), sl25⟩) (c25 : PySem.W.codeIn K cd25 "Bench.piece_at" = true) (k25 : PySem.W.keepIn K (.ref f25) = true)
    (a26 : PySem.W.nsIn K mainGlobals "_law_bag" = some (some (.ref f26))) (l26 : K.lookup f26 = some ⟨oc26, od26, .func (PySem.W.fnOf "_law_bag" "_law_bag" (defArgs s_bag) (defBody s_bag) (defScope s_bag) .none kV26 dc26 pm26 an26 cd26 ct26), sl26⟩) (c26 : PySem.W.codeIn K cd26 "_law_bag" = true) (k26 : PySem.W.keepIn K (.ref f26) = true)
    (a27 : PySem.W.nsIn K mainGlobals "_law_take" = some (some (.ref f27))) (l27 : K.lookup f27 = some ⟨oc27, od27, .func (PySem.W.fnOf "_law_take" "_law_take" (defArgs s_take) (defBody s_take) (defScope s_take) .none kV27 dc27 pm27 an27 cd27 ct27), sl27⟩) (c27 : PySem.W.codeIn K cd27 "_law_take" = true) (k27 : PySem.W.keepIn K (.ref f27) = true)
    (a28 : PySem.W.nsIn K mainGlobals "_law_alike" = some (some (.ref f28))) (l28 : K.lookup f28 = some ⟨oc28, od28, .func (PySem.W.fnOf "_law_alike" "_law_alike" (defArgs s_alike) (defBody s_alike) (defScope s_alike) .none kV28 dc28 pm28 an28 cd28 ct28), sl28⟩) (c28 : PySem.W.codeIn K cd28 "_law_alike" = true) (k28 : PySem.W.keepIn K (.ref f28) = true)
    (a29 : PySem.W.nsIn K mainGlobals "_law_grains" = some (some (.ref f29))) (l29 : K.lookup f29 = some ⟨oc29, od29, .func (PySem.W.fnOf "_law_grains" "_law_grains" (defArgs s_grains) (defBody s_grains) (defScope s_grains) .none kV29 dc29 pm29 an29 cd29 ct29), sl29⟩) (c29 : PySem.W.codeIn K cd29 "_law_grains" = true) (k29 : PySem.W.keepIn K (.ref f29) = true)
    (a30 : PySem.W.nsIn K mainGlobals "_law_rising" = some (some (.ref f30))) (l30 : K.lookup f30 = some ⟨oc30, od30, .func (PySem.W.fnOf "_law_rising" "_law_rising" (defArgs s_rising) (defBody s_rising) (defScope s_rising) .none kV30 dc30 pm30 an30 cd30 ct30), sl30⟩) (c30 : PySem.W.codeIn K cd30 "_law_rising" = true) (k30 : PySem.W.keepIn K (.ref f30) = true)
    (a31 : PySem.W.nsIn K mainGlobals "_law_measure" = some (some (.ref f31))) (l31 : K.lookup f31 = some ⟨oc31, od31, .func (PySem.W.fnOf "_law_measure" "_law_measure" (defArgs s_measure) (defBody s_measure) (defScope s_measure) .none kV31 dc31 pm31 an31 cd31 ct31), sl31⟩) (c31 : PySem.W.codeIn K cd31 "_law_measure" = true) (k31 : PySem.W.keepIn K (.ref f31) = true)
    (a32 : PySem.W.nsIn K mainGlobals "_law_bed" = some (some (.ref f32))) (l32 : K.lookup f32 = some ⟨oc32, od32, .func (PySem.W.fnOf "_law_bed" "_law_bed" (defArgs s_bed) (defBody s_bed) (defScope s_bed) .none kV32 dc32 pm32 an32 cd32 ct32), sl32⟩) (c32 : PySem.W.codeIn K cd32 "_law_bed" = true) (k32 : PySem.W.keepIn K (.ref f32) = true)
    (a33 : PySem.W.nsIn K mainGlobals "_law_bench" = some (some (.ref f33))) (l33 : K.lookup f33 = some ⟨oc33, od33, .func (PySem.W.fnOf "_law_bench" "_law_bench" (defArgs s_bench) (defBody s_bench) (defScope s_bench) .none kV33 dc33 pm33 an33 cd33 ct33), sl33⟩) (c33 : PySem.W.codeIn K cd33 "_law_bench" = true) (k33 : PySem.W.keepIn K (.ref f33) = true)
    (a34 : PySem.W.nsIn K mainGlobals "_law_copy" = some (some (.ref f34))) (l34 : K.lookup f34 = some ⟨oc34, od34, .func (PySem.W.fnOf "_law_copy" "_law_copy" (defArgs s_copy) (defBody s_copy) (defScope s_copy) .none kV34 dc34 pm34 an34 cd34 ct34), sl34⟩) (c34 : PySem.W.codeIn K cd34 "_law_copy" = true) (k34 : PySem.W.keepIn K (.ref f34) = true)
    (a35 : PySem.W.nsIn K mainGlobals "_law_sort" = some (some (.ref f35))) (l35 : K.lookup f35 = some ⟨oc35, od35, .func (PySem.W.fnOf "_law_sort" "_law_sort" (defArgs s_sort) (defBody s_sort) (defScope s_sort) .none kV35 dc35 pm35 an35 cd35 ct35), sl35⟩) (c35 : PySem.W.codeIn K cd35 "_law_sort" = true) (k35 : PySem.W.keepIn K (.ref f35) = true)
    (a36 : PySem.W.nsIn K mainGlobals "_law_made" = some (some (.ref f36))) (l36 : K.lookup f36 = some ⟨oc36, od36, .func (PySem.W.fnOf "_law_made" "_law_made" (defArgs s_made) (defBody s_made) (defScope s_made) .none kV36 dc36 pm36 an36 cd36 ct36), sl36⟩) (c36 : PySem.W.codeIn K cd36 "_law_made" = true) (k36 : PySem.W.keepIn K (.ref f36) = true)
    (a37 : PySem.W.nsIn K mainGlobals "_law_asked" = some (some (.ref f37))) (l37 : K.lookup f37 = some ⟨oc37, od37, .func (PySem.W.fnOf "_law_asked" "_law_asked" (defArgs s_asked) (defBody s_asked) (defScope s_asked) .none kV37 dc37 pm37 an37 cd37 ct37), sl37⟩) (c37 : PySem.W.codeIn K cd37 "_law_asked" = true) (k37 : PySem.W.keepIn K (.ref f37) = true)
    (a38 : PySem.W.nsIn K mainGlobals "_law_due" = some (some (.ref f38))) (l38 : K.lookup f38 = some ⟨oc38, od38, .func (PySem.W.fnOf "_law_due" "_law_due" (defArgs s_due) (defBody s_due) (defScope s_due) .none kV38 dc38 pm38 an38 cd38 ct38), sl38⟩) (c38 : PySem.W.codeIn K cd38 "_law_due" = true) (k38 : PySem.W.keepIn K (.ref f38) = true)
    (a39 : PySem.W.nsIn K mainGlobals "_law_spoilt" = some (some (.ref f39))) (l39 : K.lookup f39 = some ⟨oc39, od39, .func (PySem.W.fnOf "_law_spoilt" "_law_spoilt" (defArgs s_spoilt) (defBody s_spoilt) (defScope s_spoilt) .none kV39 dc39 pm39 an39 cd39 ct39), sl39⟩) (c39 : PySem.W.codeIn K cd39 "_law_spoilt" = true) (k39 : PySem.W.keepIn K (.ref f39) = true)
    (a40 : PySem.W.nsIn K mainGlobals "_law_wild" = some (some (.ref f40))) (l40 : K.lookup f40 = some ⟨oc40, od40, .func (PySem.W.fnOf "_law_wild" "_law_wild" (defArgs s_wild) (defBody s_wild) (defScope s_wild) .none kV40 dc40 pm40 an40 cd40 ct40), sl40⟩) (c40 : PySem.W.codeIn K cd40 "_law_wild" = true) (k40 : PySem.W.keepIn K (.ref f40) = true)
    (a41 : PySem.W.nsIn K mainGlobals "_law_bad_measure" = some (some (.ref f41))) (l41 : K.lookup f41 = some ⟨oc41, od41, .func (PySem.W.fnOf "_law_bad_measure" "_law_bad_measure" (defArgs s_bad_measure) (defBody s_bad_measure) (defScope s_bad_measure) .none kV41 dc41 pm41 an41 cd41 ct41), sl41⟩) (c41 : PySem.W.codeIn K cd41 "_law_bad_measure" = true) (k41 : PySem.W.keepIn K (.ref f41) = true)
    (a42 : PySem.W.nsIn K mainGlobals "_law_bad_joints" = some (some (.ref f42))) (l42 : K.lookup f42 = some ⟨oc42, od42, .func (PySem.W.fnOf "_law_bad_joints" "_law_bad_joints" (defArgs s_bad_joints) (defBody s_bad_joints) (defScope s_bad_joints) .none kV42 dc42 pm42 an42 cd42 ct42), sl42⟩) (c42 : PySem.W.codeIn K cd42 "_law_bad_joints" = true) (k42 : PySem.W.keepIn K (.ref f42) = true)
    (a43 : PySem.W.nsIn K mainGlobals "_law_bad_bed" = some (some (.ref f43))) (l43 : K.lookup f43 = some ⟨oc43, od43, .func (PySem.W.fnOf "_law_bad_bed" "_law_bad_bed" (defArgs s_bad_bed) (defBody s_bad_bed) (defScope s_bad_bed) .none kV43 dc43 pm43 an43 cd43 ct43), sl43⟩) (c43 : PySem.W.codeIn K cd43 "_law_bad_bed" = true) (k43 : PySem.W.keepIn K (.ref f43) = true)
    (a44 : PySem.W.nsIn K mainGlobals "_law_bad_beds" = some (some (.ref f44))) (l44 : K.lookup f44 = some ⟨oc44, od44, .func (PySem.W.fnOf "_law_bad_beds" "_law_bad_beds" (defArgs s_bad_beds) (defBody s_bad_beds) (defScope s_bad_beds) .none kV44 dc44 pm44 an44 cd44 ct44), sl44⟩) (c44 : PySem.W.codeIn K cd44 "_law_bad_beds" = true) (k44 : PySem.W.keepIn K (.ref f44) = true)
    (a45 : PySem.W.nsIn K mainGlobals "_law_wrongs" = some (some (.ref f45))) (l45 : K.lookup f45 = some ⟨oc45, od45, .func (PySem.W.fnOf "_law_wrongs" "_law_wrongs" (defArgs s_wrongs) (defBody s_wrongs) (defScope s_wrongs) .none kV45 dc45 pm45 an45 cd45 ct45), sl45⟩) (c45 : PySem.W.codeIn K cd45 "_law_wrongs" = true) (k45 : PySem.W.keepIn K (.ref f45) = true)
    (a46 : PySem.W.nsIn K mainGlobals "_law_pieces_refused" = some (some (.ref f46))) (l46 : K.lookup f46 = some ⟨oc46, od46, .func (PySem.W.fnOf "_law_pieces_refused" "_law_pieces_refused" (defArgs s_pieces_refused) (defBody s_pieces_refused) (defScope s_pieces_refused) .none kV46 dc46 pm46 an46 cd46 ct46), sl46⟩) (c46 : PySem.W.codeIn K cd46 "_law_pieces_refused" = true) (k46 : PySem.W.keepIn K (.ref f46) = true)
    (a47 : PySem.W.nsIn K mainGlobals "_law_edges" = some (some (.ref f47))) (l47 : K.lookup f47 = some ⟨oc47, od47, .func (PySem.W.fnOf "_law_edges" "_law_edges" (defArgs s_edges) (defBody s_edges) (defScope s_edges) .none kV47 dc47 pm47 an47 cd47 ct47), sl47⟩) (c47 : PySem.W.codeIn K cd47 "_law_edges" = true) (k47 : PySem.W.keepIn K (.ref f47) = true)
    (a48 : PySem.W.nsIn K mainGlobals "_law_shown" = some (some (.ref f48))) (l48 : K.lookup f48 = some ⟨oc48, od48, .func (PySem.W.fnOf "_law_shown" "_law_shown" (defArgs s_shown) (defBody s_shown) (defScope s_shown) .none kV48 dc48 pm48 an48 cd48 ct48), sl48⟩) (c48 : PySem.W.codeIn K cd48 "_law_shown" = true) (k48 : PySem.W.keepIn K (.ref f48) = true)
    (a49 : PySem.W.nsIn K mainGlobals "law" = some (some (.ref f49))) (l49 : K.lookup f49 = some ⟨oc49, od49, .func (PySem.W.fnOf "law" "law" (defArgs s_law) (defBody s_law) (defScope s_law) .none kV49 dc49 pm49 an49 cd49 ct49), sl49⟩) (c49 : PySem.W.codeIn K cd49 "law" = true) (k49 : PySem.W.keepIn K (.ref f49) = true)
    (z0 : PySem.W.nsIn K mainGlobals "ValueError" = some none)
    (z1 : PySem.W.nsIn K mainGlobals "abs" = some none)
    (z2 : PySem.W.nsIn K mainGlobals "all" = some none)
    (z3 : PySem.W.nsIn K mainGlobals "any" = some none)
    (z4 : PySem.W.nsIn K mainGlobals "bool" = some none)
    (z5 : PySem.W.nsIn K mainGlobals "enumerate" = some none)
    (z6 : PySem.W.nsIn K mainGlobals "int" = some none)
    (z7 : PySem.W.nsIn K mainGlobals "isinstance" = some none)
    (z8 : PySem.W.nsIn K mainGlobals "len" = some none)
    (z9 : PySem.W.nsIn K mainGlobals "list" = some none)
    (z10 : PySem.W.nsIn K mainGlobals "min" = some none)
    (z11 : PySem.W.nsIn K mainGlobals "range" = some none)
    (z12 : PySem.W.nsIn K mainGlobals "repr" = some none)
    (z13 : PySem.W.nsIn K mainGlobals "str" = some none)
    (z14 : PySem.W.nsIn K mainGlobals "sum" = some none)
    (z15 : PySem.W.nsIn K mainGlobals "tuple" = some none)
    {t0 : Tok} (y0 : PySem.W.nsIn K mainGlobals "FAR" = some (some (.int 1000000 t0)))
    {t1 : Tok} (y1 : PySem.W.nsIn K mainGlobals "FARTHEST" = some (some (.int 1000000 t1)))
    {t2 : Tok} (y2 : PySem.W.nsIn K mainGlobals "LETTERS" = some (some (.str ("abcdefghijklmnopqrstuvwxyz" : Str) t2)))
    {t3 : Tok} (y3 : PySem.W.nsIn K mainGlobals "LONGEST_GRAIN" = some (some (.int 8 t3)))
    {t4 : Tok} (y4 : PySem.W.nsIn K mainGlobals "MOST_BEDS" = some (some (.int 6 t4)))
    {t5 : Tok} (y5 : PySem.W.nsIn K mainGlobals "MOST_HEAVY" = some (some (.int 1000 t5)))
    {t6 : Tok} (y6 : PySem.W.nsIn K mainGlobals "MOST_JOINTS" = some (some (.int 23 t6)))
    {t7 : Tok} (y7 : PySem.W.nsIn K mainGlobals "MOST_MEASURE" = some (some (.int 1000000 t7)))
    {t8 : Tok} (y8 : PySem.W.nsIn K mainGlobals "MOST_PIECES" = some (some (.int 24 t8)))
    (kA_Bench : PySem.W.nsIn K mainGlobals "Bench" = some (some (.ref D_Bench)))
    (kP_Bench : PySem.W.plainGet K D_Bench Str.empty = true)
    (kD_Bench : PySem.W.hasDictIn K D_Bench = true)
    (kO_Bench : PySem.W.plainOver K D_Bench = true)
    (kS_Bench : PySem.W.findIn K (.ref D_Bench) "__setattr__" = some (some (.builtin "object.__setattr__")))
    (kM_Bench : PySem.W.makesIn K D_Bench = true)
    (kK_Bench : PySem.W.keepIn K (.ref D_Bench) = true)
    (kN_Bench_kept_beds : PySem.W.findIn K (.ref D_Bench) "kept_beds" = some none)
    (kN_Bench_kept_pieces : PySem.W.findIn K (.ref D_Bench) "kept_pieces" = some none)
    (kN_Bench_long_and_wide : PySem.W.findIn K (.ref D_Bench) "long_and_wide" = some none)
    (kN_Bench_top : PySem.W.findIn K (.ref D_Bench) "top" = some none)
    {D_NoBed D_NoPiece D_StoneError D_TooMany D_Wrong : Addr}
    (u_NoBed : PySem.W.nsIn K mainGlobals "NoBed" = some (some (.ref D_NoBed)))
    (u_NoPiece : PySem.W.nsIn K mainGlobals "NoPiece" = some (some (.ref D_NoPiece)))
    (u_StoneError : PySem.W.nsIn K mainGlobals "StoneError" = some (some (.ref D_StoneError)))
    (u_TooMany : PySem.W.nsIn K mainGlobals "TooMany" = some (some (.ref D_TooMany)))
    (u_Wrong : PySem.W.nsIn K mainGlobals "Wrong" = some (some (.ref D_Wrong)))
    (b5 : PySem.W.specialIn K (.ref D_StoneError) "__getattribute__" = some (some (.builtin "type.__getattribute__")))
    (b6 : PySem.W.readsIn K D_StoneError (.type "type") = true)
    (b7 : PySem.W.findCls K (.ref D_StoneError) (.type "type") "__init__" = some (.val (.builtin "ValueError.__init__")))
    (b8 : PySem.W.specialIn K (.builtin "object.__class__") "__get__" = some (some (.builtin "getset_descriptor.__get__")))
    (b9 : PySem.W.takesIn K (.builtin "object.__class__") = some true)
    (v_StoneError_1 : PySem.W.subIn K (.ref D_StoneError) (.type "BaseException") = some true)
    (v_StoneError_2 : PySem.W.hasDictIn K D_StoneError = true)
    (v_StoneError_3 : PySem.W.typeIn K (.ref D_StoneError) = some (.type "type"))
    (w_NoBed_1 : PySem.W.hasDictIn K D_NoBed = true)
    (w_NoBed_2 : PySem.W.typeIn K (.ref D_NoBed) = some (.type "type"))
    (w_NoBed_3 : PySem.W.subIn K (.ref D_NoBed) (.ref D_NoBed) = some true)
    (w_NoPiece_1 : PySem.W.hasDictIn K D_NoPiece = true)
    (w_NoPiece_2 : PySem.W.typeIn K (.ref D_NoPiece) = some (.type "type"))
    (w_NoPiece_3 : PySem.W.subIn K (.ref D_NoPiece) (.ref D_NoPiece) = some true)
    (w_TooMany_1 : PySem.W.hasDictIn K D_TooMany = true)
    (w_TooMany_2 : PySem.W.typeIn K (.ref D_TooMany) = some (.type "type"))
    (w_TooMany_3 : PySem.W.subIn K (.ref D_TooMany) (.ref D_TooMany) = some true)
    (w_Wrong_1 : PySem.W.hasDictIn K D_Wrong = true)
    (w_Wrong_2 : PySem.W.typeIn K (.ref D_Wrong) = some (.type "type"))
    (w_Wrong_3 : PySem.W.subIn K (.ref D_Wrong) (.ref D_Wrong) = some true)
    {I_NoBed N_NoBed : Addr} {nm_NoBed q_NoBed : Str} {bs_NoBed bm_NoBed : List Value} {sn_NoBed : List Str} {sub_NoBed : List Value} {ab_NoBed : Bool} {col_NoBed : Option Bool} {dd_NoBed : Option Addr} {k0_NoBed k1_NoBed k2_NoBed k3_NoBed k5_NoBed : Option Value}
    {oc_NoBed kV_NoBed doc_NoBed pm_NoBed cdv_NoBed ct_NoBed : Value} {od_NoBed an_NoBed : Option Addr} {sl_NoBed : Array (Option Value)}
    (x_NoBed_1 : K.lookup D_NoBed = some (excClassObj nm_NoBed q_NoBed D_NoBed N_NoBed bs_NoBed bm_NoBed true sn_NoBed sub_NoBed ab_NoBed col_NoBed dd_NoBed k0_NoBed k1_NoBed k2_NoBed k3_NoBed k5_NoBed "ValueError.__new__"))
    (x_NoBed_2 : PySem.HandSPX.refsVE bm_NoBed = true)
    (x_NoBed_3 : PySem.W.findIn K (.ref D_NoBed) "__setattr__" = some (some (.builtin "object.__setattr__")))
    (x_NoBed_4 : PySem.W.subIn K (.ref D_NoBed) (.type "BaseException") = some true)
    (x_NoBed_5 : PySem.W.typeIn K (.ref D_NoBed) = some (.type "type"))
    (x_NoBed_6 : PySem.W.keepIn K (.ref D_NoBed) = true)
    (x_NoBed_7 : PySem.W.findIn K (.ref D_NoBed) "__init__" = some (some (.ref I_NoBed)))
    (x_NoBed_8 : PySem.W.typeIn K (.ref I_NoBed) = some (.type "function"))
    (x_NoBed_9 : K.lookup I_NoBed = some ⟨oc_NoBed, od_NoBed, .func (PySem.W.fnOf "__init__" "NoBed.__init__" (defArgs s_ini_NoBed) (defBody s_ini_NoBed) (defScope s_ini_NoBed) .none kV_NoBed doc_NoBed pm_NoBed an_NoBed cdv_NoBed ct_NoBed), sl_NoBed⟩)
    (x_NoBed_a : PySem.W.codeIn K cdv_NoBed "NoBed.__init__" = true)
    (x_NoBed_b : PySem.W.keepIn K (.ref I_NoBed) = true)
    (x_NoBed_c : PySem.W.findIn K (.ref D_NoBed) "__getattribute__" = some (some (.builtin "BaseException.__getattribute__")))
    (x_NoBed_d : PySem.W.findIn K (.ref D_NoBed) "__getattr__" = some none)
    (x_NoBed_e : PySem.W.hasDictIn K D_NoBed = true)
    (x_NoBed_f : PySem.W.findIn K (.ref D_NoBed) "__class__" = some (some (.builtin "object.__class__")))
    (x_NoBed_g : PySem.W.mroIn K D_NoBed (.type "object") = some true)
    (x_NoBed_h : PySem.W.subIn K (.ref D_NoBed) (.type "ValueError") = some true)
    (t_NoBed_NoPiece : PySem.W.subIn K (.ref D_NoBed) (.ref D_NoPiece) = some false)
    (t_NoBed_TooMany : PySem.W.subIn K (.ref D_NoBed) (.ref D_TooMany) = some false)
    (t_NoBed_Wrong : PySem.W.subIn K (.ref D_NoBed) (.ref D_Wrong) = some false)
    (c_NoBed_StoneError : PySem.W.subIn K (.ref D_NoBed) (.ref D_StoneError) = some true)
    (f_NoBed_at : PySem.W.findIn K (.ref D_NoBed) "at" = some none)
    (f_NoBed_most : PySem.W.findIn K (.ref D_NoBed) "most" = some none)
    (f_NoBed_piece : PySem.W.findIn K (.ref D_NoBed) "piece" = some none)
    {I_NoPiece N_NoPiece : Addr} {nm_NoPiece q_NoPiece : Str} {bs_NoPiece bm_NoPiece : List Value} {sn_NoPiece : List Str} {sub_NoPiece : List Value} {ab_NoPiece : Bool} {col_NoPiece : Option Bool} {dd_NoPiece : Option Addr} {k0_NoPiece k1_NoPiece k2_NoPiece k3_NoPiece k5_NoPiece : Option Value}
    {oc_NoPiece kV_NoPiece doc_NoPiece pm_NoPiece cdv_NoPiece ct_NoPiece : Value} {od_NoPiece an_NoPiece : Option Addr} {sl_NoPiece : Array (Option Value)}
    (x_NoPiece_1 : K.lookup D_NoPiece = some (excClassObj nm_NoPiece q_NoPiece D_NoPiece N_NoPiece bs_NoPiece bm_NoPiece true sn_NoPiece sub_NoPiece ab_NoPiece col_NoPiece dd_NoPiece k0_NoPiece k1_NoPiece k2_NoPiece k3_NoPiece k5_NoPiece "ValueError.__new__"))
    (x_NoPiece_2 : PySem.HandSPX.refsVE bm_NoPiece = true)
    (x_NoPiece_3 : PySem.W.findIn K (.ref D_NoPiece) "__setattr__" = some (some (.builtin "object.__setattr__")))
    (x_NoPiece_4 : PySem.W.subIn K (.ref D_NoPiece) (.type "BaseException") = some true)
    (x_NoPiece_5 : PySem.W.typeIn K (.ref D_NoPiece) = some (.type "type"))
    (x_NoPiece_6 : PySem.W.keepIn K (.ref D_NoPiece) = true)
    (x_NoPiece_7 : PySem.W.findIn K (.ref D_NoPiece) "__init__" = some (some (.ref I_NoPiece)))
    (x_NoPiece_8 : PySem.W.typeIn K (.ref I_NoPiece) = some (.type "function"))
    (x_NoPiece_9 : K.lookup I_NoPiece = some ⟨oc_NoPiece, od_NoPiece, .func (PySem.W.fnOf "__init__" "NoPiece.__init__" (defArgs s_ini_NoPiece) (defBody s_ini_NoPiece) (defScope s_ini_NoPiece) .none kV_NoPiece doc_NoPiece pm_NoPiece an_NoPiece cdv_NoPiece ct_NoPiece), sl_NoPiece⟩)
    (x_NoPiece_a : PySem.W.codeIn K cdv_NoPiece "NoPiece.__init__" = true)
    (x_NoPiece_b : PySem.W.keepIn K (.ref I_NoPiece) = true)
    (x_NoPiece_c : PySem.W.findIn K (.ref D_NoPiece) "__getattribute__" = some (some (.builtin "BaseException.__getattribute__")))
    (x_NoPiece_d : PySem.W.findIn K (.ref D_NoPiece) "__getattr__" = some none)
    (x_NoPiece_e : PySem.W.hasDictIn K D_NoPiece = true)
    (x_NoPiece_f : PySem.W.findIn K (.ref D_NoPiece) "__class__" = some (some (.builtin "object.__class__")))
    (x_NoPiece_g : PySem.W.mroIn K D_NoPiece (.type "object") = some true)
    (x_NoPiece_h : PySem.W.subIn K (.ref D_NoPiece) (.type "ValueError") = some true)
    (t_NoPiece_NoBed : PySem.W.subIn K (.ref D_NoPiece) (.ref D_NoBed) = some false)
    (t_NoPiece_TooMany : PySem.W.subIn K (.ref D_NoPiece) (.ref D_TooMany) = some false)
    (t_NoPiece_Wrong : PySem.W.subIn K (.ref D_NoPiece) (.ref D_Wrong) = some false)
    (c_NoPiece_StoneError : PySem.W.subIn K (.ref D_NoPiece) (.ref D_StoneError) = some true)
    (f_NoPiece_at : PySem.W.findIn K (.ref D_NoPiece) "at" = some none)
    (f_NoPiece_most : PySem.W.findIn K (.ref D_NoPiece) "most" = some none)
    (f_NoPiece_piece : PySem.W.findIn K (.ref D_NoPiece) "piece" = some none)
    {I_TooMany N_TooMany : Addr} {nm_TooMany q_TooMany : Str} {bs_TooMany bm_TooMany : List Value} {sn_TooMany : List Str} {sub_TooMany : List Value} {ab_TooMany : Bool} {col_TooMany : Option Bool} {dd_TooMany : Option Addr} {k0_TooMany k1_TooMany k2_TooMany k3_TooMany k5_TooMany : Option Value}
    {oc_TooMany kV_TooMany doc_TooMany pm_TooMany cdv_TooMany ct_TooMany : Value} {od_TooMany an_TooMany : Option Addr} {sl_TooMany : Array (Option Value)}
    (x_TooMany_1 : K.lookup D_TooMany = some (excClassObj nm_TooMany q_TooMany D_TooMany N_TooMany bs_TooMany bm_TooMany true sn_TooMany sub_TooMany ab_TooMany col_TooMany dd_TooMany k0_TooMany k1_TooMany k2_TooMany k3_TooMany k5_TooMany "ValueError.__new__"))
    (x_TooMany_2 : PySem.HandSPX.refsVE bm_TooMany = true)
    (x_TooMany_3 : PySem.W.findIn K (.ref D_TooMany) "__setattr__" = some (some (.builtin "object.__setattr__")))
    (x_TooMany_4 : PySem.W.subIn K (.ref D_TooMany) (.type "BaseException") = some true)
    (x_TooMany_5 : PySem.W.typeIn K (.ref D_TooMany) = some (.type "type"))
    (x_TooMany_6 : PySem.W.keepIn K (.ref D_TooMany) = true)
    (x_TooMany_7 : PySem.W.findIn K (.ref D_TooMany) "__init__" = some (some (.ref I_TooMany)))
    (x_TooMany_8 : PySem.W.typeIn K (.ref I_TooMany) = some (.type "function"))
    (x_TooMany_9 : K.lookup I_TooMany = some ⟨oc_TooMany, od_TooMany, .func (PySem.W.fnOf "__init__" "TooMany.__init__" (defArgs s_ini_TooMany) (defBody s_ini_TooMany) (defScope s_ini_TooMany) .none kV_TooMany doc_TooMany pm_TooMany an_TooMany cdv_TooMany ct_TooMany), sl_TooMany⟩)
    (x_TooMany_a : PySem.W.codeIn K cdv_TooMany "TooMany.__init__" = true)
    (x_TooMany_b : PySem.W.keepIn K (.ref I_TooMany) = true)
    (x_TooMany_c : PySem.W.findIn K (.ref D_TooMany) "__getattribute__" = some (some (.builtin "BaseException.__getattribute__")))
    (x_TooMany_d : PySem.W.findIn K (.ref D_TooMany) "__getattr__" = some none)
    (x_TooMany_e : PySem.W.hasDictIn K D_TooMany = true)
    (x_TooMany_f : PySem.W.findIn K (.ref D_TooMany) "__class__" = some (some (.builtin "object.__class__")))
    (x_TooMany_g : PySem.W.mroIn K D_TooMany (.type "object") = some true)
    (x_TooMany_h : PySem.W.subIn K (.ref D_TooMany) (.type "ValueError") = some true)
    (t_TooMany_NoBed : PySem.W.subIn K (.ref D_TooMany) (.ref D_NoBed) = some false)
    (t_TooMany_NoPiece : PySem.W.subIn K (.ref D_TooMany) (.ref D_NoPiece) = some false)
    (t_TooMany_Wrong : PySem.W.subIn K (.ref D_TooMany) (.ref D_Wrong) = some false)
    (c_TooMany_StoneError : PySem.W.subIn K (.ref D_TooMany) (.ref D_StoneError) = some true)
    (f_TooMany_at : PySem.W.findIn K (.ref D_TooMany) "at" = some none)
    (f_TooMany_most : PySem.W.findIn K (.ref D_TooMany) "most" = some none)
    (f_TooMany_piece : PySem.W.findIn K (.ref D_TooMany) "piece" = some none)
    {I_Wrong N_Wrong : Addr} {nm_Wrong q_Wrong : Str} {bs_Wrong bm_Wrong : List Value} {sn_Wrong : List Str} {sub_Wrong : List Value} {ab_Wrong : Bool} {col_Wrong : Option Bool} {dd_Wrong : Option Addr} {k0_Wrong k1_Wrong k2_Wrong k3_Wrong k5_Wrong : Option Value}
    {oc_Wrong kV_Wrong doc_Wrong pm_Wrong cdv_Wrong ct_Wrong : Value} {od_Wrong an_Wrong : Option Addr} {sl_Wrong : Array (Option Value)}
    (x_Wrong_1 : K.lookup D_Wrong = some (excClassObj nm_Wrong q_Wrong D_Wrong N_Wrong bs_Wrong bm_Wrong true sn_Wrong sub_Wrong ab_Wrong col_Wrong dd_Wrong k0_Wrong k1_Wrong k2_Wrong k3_Wrong k5_Wrong "ValueError.__new__"))
    (x_Wrong_2 : PySem.HandSPX.refsVE bm_Wrong = true)
    (x_Wrong_3 : PySem.W.findIn K (.ref D_Wrong) "__setattr__" = some (some (.builtin "object.__setattr__")))
    (x_Wrong_4 : PySem.W.subIn K (.ref D_Wrong) (.type "BaseException") = some true)
    (x_Wrong_5 : PySem.W.typeIn K (.ref D_Wrong) = some (.type "type"))
    (x_Wrong_6 : PySem.W.keepIn K (.ref D_Wrong) = true)
    (x_Wrong_7 : PySem.W.findIn K (.ref D_Wrong) "__init__" = some (some (.ref I_Wrong)))
    (x_Wrong_8 : PySem.W.typeIn K (.ref I_Wrong) = some (.type "function"))
    (x_Wrong_9 : K.lookup I_Wrong = some ⟨oc_Wrong, od_Wrong, .func (PySem.W.fnOf "__init__" "Wrong.__init__" (defArgs s_ini_Wrong) (defBody s_ini_Wrong) (defScope s_ini_Wrong) .none kV_Wrong doc_Wrong pm_Wrong an_Wrong cdv_Wrong ct_Wrong), sl_Wrong⟩)
    (x_Wrong_a : PySem.W.codeIn K cdv_Wrong "Wrong.__init__" = true)
    (x_Wrong_b : PySem.W.keepIn K (.ref I_Wrong) = true)
    (x_Wrong_c : PySem.W.findIn K (.ref D_Wrong) "__getattribute__" = some (some (.builtin "BaseException.__getattribute__")))
    (x_Wrong_d : PySem.W.findIn K (.ref D_Wrong) "__getattr__" = some none)
    (x_Wrong_e : PySem.W.hasDictIn K D_Wrong = true)
    (x_Wrong_f : PySem.W.findIn K (.ref D_Wrong) "__class__" = some (some (.builtin "object.__class__")))
    (x_Wrong_g : PySem.W.mroIn K D_Wrong (.type "object") = some true)
    (x_Wrong_h : PySem.W.subIn K (.ref D_Wrong) (.type "ValueError") = some true)
    (t_Wrong_NoBed : PySem.W.subIn K (.ref D_Wrong) (.ref D_NoBed) = some false)
    (t_Wrong_NoPiece : PySem.W.subIn K (.ref D_Wrong) (.ref D_NoPiece) = some false)
    (t_Wrong_TooMany : PySem.W.subIn K (.ref D_Wrong) (.ref D_TooMany) = some false)
    (c_Wrong_StoneError : PySem.W.subIn K (.ref D_Wrong) (.ref D_StoneError) = some true)
    (f_Wrong_at : PySem.W.findIn K (.ref D_Wrong) "at" = some none)
    (f_Wrong_most : PySem.W.findIn K (.ref D_Wrong) "most" = some none)
    (f_Wrong_piece : PySem.W.findIn K (.ref D_Wrong) "piece" = some none)
    : Callee P w K mg base 11 "law" ["_law_script"] [] (lawS 63) := by
  have B : Bt mg := ⟨PySem.W.mg_none_of X G z0, PySem.W.mg_none_of X G z1, PySem.W.mg_none_of X G z2, PySem.W.mg_none_of X G z3, PySem.W.mg_none_of X G z4, PySem.W.mg_none_of X G z5, PySem.W.mg_none_of X G z6, PySem.W.mg_none_of X G z7, PySem.W.mg_none_of X G z8, PySem.W.mg_none_of X G z9, PySem.W.mg_none_of X G z10, PySem.W.mg_none_of X G z11, PySem.W.mg_none_of X G z12, PySem.W.mg_none_of X G z13, PySem.W.mg_none_of X G z14, PySem.W.mg_none_of X G z15, ⟨_, PySem.W.mg_of X G y0⟩, ⟨_, PySem.W.mg_of X G y1⟩, ⟨_, PySem.W.mg_of X G y2⟩, ⟨_, PySem.W.mg_of X G y3⟩, ⟨_, PySem.W.mg_of X G y4⟩, ⟨_, PySem.W.mg_of X G y5⟩, ⟨_, PySem.W.mg_of X G y6⟩, ⟨_, PySem.W.mg_of X G y7⟩, ⟨_, PySem.W.mg_of X G y8⟩⟩
  obtain ⟨ca, e_NoBed, e_NoPiece, e_StoneError, e_TooMany, e_Wrong, e_Bench⟩ : ∃ ca : Str → Addr, ca "NoBed" = D_NoBed ∧ ca "NoPiece" = D_NoPiece ∧ ca "StoneError" = D_StoneError ∧ ca "TooMany" = D_TooMany ∧ ca "Wrong" = D_Wrong ∧ ca "Bench" = D_Bench := ⟨fun x => if x = "NoBed" then D_NoBed else if x = "NoPiece" then D_NoPiece else if x = "StoneError" then D_StoneError else if x = "TooMany" then D_TooMany else if x = "Wrong" then D_Wrong else if x = "Bench" then D_Bench else D_StoneError, by dsimp only; rw [if_pos rfl], by dsimp only; rw [if_neg (by decide)]; rw [if_pos rfl], by dsimp only; rw [if_neg (by decide)]; rw [if_neg (by decide)]; rw [if_pos rfl], by dsimp only; rw [if_neg (by decide)]; rw [if_neg (by decide)]; rw [if_neg (by decide)]; rw [if_pos rfl], by dsimp only; rw [if_neg (by decide)]; rw [if_neg (by decide)]; rw [if_neg (by decide)]; rw [if_neg (by decide)]; rw [if_pos rfl], by dsimp only; rw [if_neg (by decide)]; rw [if_neg (by decide)]; rw [if_neg (by decide)]; rw [if_neg (by decide)]; rw [if_neg (by decide)]; rw [if_pos rfl]⟩
  subst e_NoBed e_NoPiece e_StoneError e_TooMany e_Wrong e_Bench
  have KC_Bench : Cls K (ca "Bench") := ⟨kP_Bench, kD_Bench, kO_Bench, kS_Bench⟩
  have KN_Bench : ∀ x, x ∈ (["kept_beds", "kept_pieces", "long_and_wide", "top"] : List Str) → NoAttr K (ca "Bench") x := (all_in kN_Bench_kept_beds (all_in kN_Bench_kept_pieces (all_in kN_Bench_long_and_wide (all_in kN_Bench_top no_in))))
  have D_is_whole : DefAt K mg "is_whole" s_is_whole ["thing"] := def_at X G a0 l0 c0 k0 fun _ _ _ _ _ _ us hl => match us, hl with | [_], _ => rfl
  have D_is_between : DefAt K mg "is_between" s_is_between ["thing", "least", "most"] := def_at X G a1 l1 c1 k1 fun _ _ _ _ _ _ us hl => match us, hl with | [_, _, _], _ => rfl
  have D_are_between : DefAt K mg "are_between" s_are_between ["things", "least", "most"] := def_at X G a2 l2 c2 k2 fun _ _ _ _ _ _ us hl => match us, hl with | [_, _, _], _ => rfl
  have D_is_measure : DefAt K mg "is_measure" s_is_measure ["thing"] := def_at X G a3 l3 c3 k3 fun _ _ _ _ _ _ us hl => match us, hl with | [_], _ => rfl
  have D_is_spot : DefAt K mg "is_spot" s_is_spot ["thing"] := def_at X G a4 l4 c4 k4 fun _ _ _ _ _ _ us hl => match us, hl with | [_], _ => rfl
  have D_is_point : DefAt K mg "is_point" s_is_point ["thing"] := def_at X G a5 l5 c5 k5 fun _ _ _ _ _ _ us hl => match us, hl with | [_], _ => rfl
  have D_is_grain : DefAt K mg "is_grain" s_is_grain ["thing"] := def_at X G a6 l6 c6 k6 fun _ _ _ _ _ _ us hl => match us, hl with | [_], _ => rfl
  have D_is_box : DefAt K mg "is_box" s_is_box ["thing"] := def_at X G a7 l7 c7 k7 fun _ _ _ _ _ _ us hl => match us, hl with | [_], _ => rfl
  have D_refuse_wrong : DefAt K mg "refuse_wrong" s_refuse_wrong ["rights"] := def_at X G a8 l8 c8 k8 fun _ _ _ _ _ _ us hl => match us, hl with | [_], _ => rfl
  have D_has_point : DefAt K mg "has_point" s_has_point ["box", "point"] := def_at X G a9 l9 c9 k9 fun _ _ _ _ _ _ us hl => match us, hl with | [_, _], _ => rfl
  have D_are_joints : DefAt K mg "are_joints" s_are_joints ["thing"] := def_at X G a10 l10 c10 k10 fun _ _ _ _ _ _ us hl => match us, hl with | [_], _ => rfl
  have D_is_bed : DefAt K mg "is_bed" s_is_bed ["thing"] := def_at X G a11 l11 c11 k11 fun _ _ _ _ _ _ us hl => match us, hl with | [_], _ => rfl
  have D_are_beds : DefAt K mg "are_beds" s_are_beds ["thing"] := def_at X G a12 l12 c12 k12 fun _ _ _ _ _ _ us hl => match us, hl with | [_], _ => rfl
  have D_joints_stand : DefAt K mg "joints_stand" s_joints_stand ["joints", "end"] := def_at X G a13 l13 c13 k13 fun _ _ _ _ _ _ us hl => match us, hl with | [_, _], _ => rfl
  have D_stretches_of : DefAt K mg "stretches_of" s_stretches_of ["joints", "end"] := def_at X G a14 l14 c14 k14 fun _ _ _ _ _ _ us hl => match us, hl with | [_, _], _ => rfl
  have D_like_bed : DefAt K mg "like_bed" s_like_bed ["bed"] := def_at X G a15 l15 c15 k15 fun _ _ _ _ _ _ us hl => match us, hl with | [_], _ => rfl
  have D_pieces_of : DefAt K mg "pieces_of" s_pieces_of ["length", "width", "bed", "z"] := def_at X G a16 l16 c16 k16 fun _ _ _ _ _ _ us hl => match us, hl with | [_, _, _, _], _ => rfl
  obtain ⟨fd_Bench_init, Fu_Bench_init, bn_Bench_init⟩ := fun_at (x := "__init__") (qual := "Bench.__init__") (st := s_Bench_init) (ps := ["self", "length", "width", "beds"]) l17 c17 k17 fun _ _ _ _ _ _ us hl => match us, hl with | [_, _, _, _], _ => rfl
  have D_Bench_init : DefK K mg "Bench" (ca "Bench") "Bench.__init__" s_Bench_init ["self", "length", "width", "beds"] := ⟨_, fd_Bench_init, Fu_Bench_init, ⟨kM_Bench, a17, i17, kK_Bench⟩, PySem.W.mg_of X G kA_Bench, bn_Bench_init⟩
  obtain ⟨fd_Bench_size, Fu_Bench_size, bn_Bench_size⟩ := fun_at (x := "size") (qual := "Bench.size") (st := s_Bench_size) (ps := ["self"]) l18 c18 k18 fun _ _ _ _ _ _ us hl => match us, hl with | [_], _ => rfl
  have D_Bench_size : DefM K (ca "Bench") "size" "Bench.size" s_Bench_size ["self"] := ⟨_, fd_Bench_size, Fu_Bench_size, ⟨a18, i18, k18⟩, bn_Bench_size⟩
  obtain ⟨fd_Bench_beds, Fu_Bench_beds, bn_Bench_beds⟩ := fun_at (x := "beds") (qual := "Bench.beds") (st := s_Bench_beds) (ps := ["self"]) l19 c19 k19 fun _ _ _ _ _ _ us hl => match us, hl with | [_], _ => rfl
  have D_Bench_beds : DefM K (ca "Bench") "beds" "Bench.beds" s_Bench_beds ["self"] := ⟨_, fd_Bench_beds, Fu_Bench_beds, ⟨a19, i19, k19⟩, bn_Bench_beds⟩
  obtain ⟨fd_Bench_many, Fu_Bench_many, bn_Bench_many⟩ := fun_at (x := "many") (qual := "Bench.many") (st := s_Bench_many) (ps := ["self"]) l20 c20 k20 fun _ _ _ _ _ _ us hl => match us, hl with | [_], _ => rfl
  have D_Bench_many : DefM K (ca "Bench") "many" "Bench.many" s_Bench_many ["self"] := ⟨_, fd_Bench_many, Fu_Bench_many, ⟨a20, i20, k20⟩, bn_Bench_many⟩
  obtain ⟨fd_Bench_piece_kept, Fu_Bench_piece_kept, bn_Bench_piece_kept⟩ := fun_at (x := "piece_kept") (qual := "Bench.piece_kept") (st := s_Bench_piece_kept) (ps := ["self", "piece"]) l21 c21 k21 fun _ _ _ _ _ _ us hl => match us, hl with | [_, _], _ => rfl
  have D_Bench_piece_kept : DefM K (ca "Bench") "piece_kept" "Bench.piece_kept" s_Bench_piece_kept ["self", "piece"] := ⟨_, fd_Bench_piece_kept, Fu_Bench_piece_kept, ⟨a21, i21, k21⟩, bn_Bench_piece_kept⟩
  obtain ⟨fd_Bench_box, Fu_Bench_box, bn_Bench_box⟩ := fun_at (x := "box") (qual := "Bench.box") (st := s_Bench_box) (ps := ["self", "piece"]) l22 c22 k22 fun _ _ _ _ _ _ us hl => match us, hl with | [_, _], _ => rfl
  have D_Bench_box : DefM K (ca "Bench") "box" "Bench.box" s_Bench_box ["self", "piece"] := ⟨_, fd_Bench_box, Fu_Bench_box, ⟨a22, i22, k22⟩, bn_Bench_box⟩
  obtain ⟨fd_Bench_grain, Fu_Bench_grain, bn_Bench_grain⟩ := fun_at (x := "grain") (qual := "Bench.grain") (st := s_Bench_grain) (ps := ["self", "piece"]) l23 c23 k23 fun _ _ _ _ _ _ us hl => match us, hl with | [_, _], _ => rfl
  have D_Bench_grain : DefM K (ca "Bench") "grain" "Bench.grain" s_Bench_grain ["self", "piece"] := ⟨_, fd_Bench_grain, Fu_Bench_grain, ⟨a23, i23, k23⟩, bn_Bench_grain⟩
  obtain ⟨fd_Bench_heavy, Fu_Bench_heavy, bn_Bench_heavy⟩ := fun_at (x := "heavy") (qual := "Bench.heavy") (st := s_Bench_heavy) (ps := ["self", "piece"]) l24 c24 k24 fun _ _ _ _ _ _ us hl => match us, hl with | [_, _], _ => rfl
  have D_Bench_heavy : DefM K (ca "Bench") "heavy" "Bench.heavy" s_Bench_heavy ["self", "piece"] := ⟨_, fd_Bench_heavy, Fu_Bench_heavy, ⟨a24, i24, k24⟩, bn_Bench_heavy⟩
  obtain ⟨fd_Bench_piece_at, Fu_Bench_piece_at, bn_Bench_piece_at⟩ := fun_at (x := "piece_at") (qual := "Bench.piece_at") (st := s_Bench_piece_at) (ps := ["self", "point"]) l25 c25 k25 fun _ _ _ _ _ _ us hl => match us, hl with | [_, _], _ => rfl
  have D_Bench_piece_at : DefM K (ca "Bench") "piece_at" "Bench.piece_at" s_Bench_piece_at ["self", "point"] := ⟨_, fd_Bench_piece_at, Fu_Bench_piece_at, ⟨a25, i25, k25⟩, bn_Bench_piece_at⟩
  have D_bag : DefAt K mg "_law_bag" s_bag ["_law_script"] := def_at X G a26 l26 c26 k26 fun _ _ _ _ _ _ us hl => match us, hl with | [_], _ => rfl
  have D_take : DefAt K mg "_law_take" s_take ["_law_bag_here", "_law_many"] := def_at X G a27 l27 c27 k27 fun _ _ _ _ _ _ us hl => match us, hl with | [_, _], _ => rfl
  have D_alike : DefAt K mg "_law_alike" s_alike ["_law_found", "_law_due_here"] := def_at X G a28 l28 c28 k28 fun _ _ _ _ _ _ us hl => match us, hl with | [_, _], _ => rfl
  have D_grains : DefAt K mg "_law_grains" s_grains ["_law_bag_here"] := def_at X G a29 l29 c29 k29 fun _ _ _ _ _ _ us hl => match us, hl with | [_], _ => rfl
  have D_rising : DefAt K mg "_law_rising" s_rising ["_law_bag_here", "_law_count", "_law_end"] := def_at X G a30 l30 c30 k30 fun _ _ _ _ _ _ us hl => match us, hl with | [_, _, _], _ => rfl
  have D_measure : DefAt K mg "_law_measure" s_measure ["_law_bag_here"] := def_at X G a31 l31 c31 k31 fun _ _ _ _ _ _ us hl => match us, hl with | [_], _ => rfl
  have D_bed : DefAt K mg "_law_bed" s_bed ["_law_bag_here", "_law_grains_here", "_law_height", "_law_cap", "_law_length", "_law_width"] := def_at X G a32 l32 c32 k32 fun _ _ _ _ _ _ us hl => match us, hl with | [_, _, _, _, _, _], _ => rfl
  have D_bench : DefAt K mg "_law_bench" s_bench ["_law_bag_here"] := def_at X G a33 l33 c33 k33 fun _ _ _ _ _ _ us hl => match us, hl with | [_], _ => rfl
  have D_copy : DefAt K mg "_law_copy" s_copy ["_law_beds"] := def_at X G a34 l34 c34 k34 fun _ _ _ _ _ _ us hl => match us, hl with | [_], _ => rfl
  have D_sort : DefAt K mg "_law_sort" s_sort ["_law_e"] := def_at X G a35 l35 c35 k35 fun _ _ _ _ _ _ us hl => match us, hl with | [_], _ => rfl
  have D_made : DefAt K mg "_law_made" s_made ["_law_length", "_law_width", "_law_beds"] := def_at X G a36 l36 c36 k36 fun _ _ _ _ _ _ us hl => match us, hl with | [_, _, _], _ => rfl
  have D_asked : DefAt K mg "_law_asked" s_asked ["_law_bench_here", "_law_word", "_law_thing"] := def_at X G a37 l37 c37 k37 fun _ _ _ _ _ _ us hl => match us, hl with | [_, _, _], _ => rfl
  have D_due : DefAt K mg "_law_due" s_due ["_law_length", "_law_width", "_law_beds"] := def_at X G a38 l38 c38 k38 fun _ _ _ _ _ _ us hl => match us, hl with | [_, _, _], _ => rfl
  have D_spoilt : DefAt K mg "_law_spoilt" s_spoilt ["_law_bag_here", "_law_joints", "_law_end"] := def_at X G a39 l39 c39 k39 fun _ _ _ _ _ _ us hl => match us, hl with | [_, _, _], _ => rfl
  have D_wild : DefAt K mg "_law_wild" s_wild ["_law_bag_here"] := def_at X G a40 l40 c40 k40 fun _ _ _ _ _ _ us hl => match us, hl with | [_], _ => rfl
  have D_bad_measure : DefAt K mg "_law_bad_measure" s_bad_measure ["_law_bag_here"] := def_at X G a41 l41 c41 k41 fun _ _ _ _ _ _ us hl => match us, hl with | [_], _ => rfl
  have D_bad_joints : DefAt K mg "_law_bad_joints" s_bad_joints ["_law_bag_here", "_law_joints"] := def_at X G a42 l42 c42 k42 fun _ _ _ _ _ _ us hl => match us, hl with | [_, _], _ => rfl
  have D_bad_bed : DefAt K mg "_law_bad_bed" s_bad_bed ["_law_bag_here", "_law_bed_here"] := def_at X G a43 l43 c43 k43 fun _ _ _ _ _ _ us hl => match us, hl with | [_, _], _ => rfl
  have D_bad_beds : DefAt K mg "_law_bad_beds" s_bad_beds ["_law_bag_here", "_law_beds"] := def_at X G a44 l44 c44 k44 fun _ _ _ _ _ _ us hl => match us, hl with | [_, _], _ => rfl
  have D_wrongs : DefAt K mg "_law_wrongs" s_wrongs ["_law_bag_here", "_law_length", "_law_width", "_law_beds"] := def_at X G a45 l45 c45 k45 fun _ _ _ _ _ _ us hl => match us, hl with | [_, _, _, _], _ => rfl
  have D_pieces_refused : DefAt K mg "_law_pieces_refused" s_pieces_refused ["_law_bag_here", "_law_bench_here"] := def_at X G a46 l46 c46 k46 fun _ _ _ _ _ _ us hl => match us, hl with | [_, _], _ => rfl
  have D_edges : DefAt K mg "_law_edges" s_edges ["_law_bag_here"] := def_at X G a47 l47 c47 k47 fun _ _ _ _ _ _ us hl => match us, hl with | [_], _ => rfl
  have D_shown : DefAt K mg "_law_shown" s_shown ["_law_bench_here"] := def_at X G a48 l48 c48 k48 fun _ _ _ _ _ _ us hl => match us, hl with | [_], _ => rfl
  have D_law : DefAt K mg "law" s_law ["_law_script"] := def_at X G a49 l49 c49 k49 fun _ _ _ _ _ _ us hl => match us, hl with | [_], _ => rfl
  have m_ : ∀ x : Str, x ∈ (["NoBed", "NoPiece", "StoneError", "TooMany", "Wrong"] : List Str) → mg x = some (.ref (ca x)) := (all_in (PySem.W.mg_of X G u_NoBed) (all_in (PySem.W.mg_of X G u_NoPiece) (all_in (PySem.W.mg_of X G u_StoneError) (all_in (PySem.W.mg_of X G u_TooMany) (all_in (PySem.W.mg_of X G u_Wrong) no_in)))))
  have T : Xt K mg ca nsL tsL csL fsL isaL := {
    mg := fun x hx => m_ x (by simp [tsL, csL] at hx ⊢; grind)
    exc := (all_in ⟨x_NoBed_c, x_NoBed_d, x_NoBed_4, x_NoBed_e, x_NoBed_f, b8, b9, x_NoBed_g⟩ (all_in ⟨x_NoPiece_c, x_NoPiece_d, x_NoPiece_4, x_NoPiece_e, x_NoPiece_f, b8, b9, x_NoPiece_g⟩ (all_in ⟨x_TooMany_c, x_TooMany_d, x_TooMany_4, x_TooMany_e, x_TooMany_f, b8, b9, x_TooMany_g⟩ (all_in ⟨x_Wrong_c, x_Wrong_d, x_Wrong_4, x_Wrong_e, x_Wrong_f, b8, b9, x_Wrong_g⟩ no_in))))
    kit := (all_in (all_in ((kit_sub w_NoBed_1 w_NoBed_2 w_NoBed_3 w_NoBed_3).trans (by decide)) (all_in ((kit_sub w_NoPiece_1 w_NoPiece_2 t_NoBed_NoPiece w_NoPiece_3).trans (by decide)) (all_in ((kit_sub w_TooMany_1 w_TooMany_2 t_NoBed_TooMany w_TooMany_3).trans (by decide)) (all_in ((kit_sub w_Wrong_1 w_Wrong_2 t_NoBed_Wrong w_Wrong_3).trans (by decide)) no_in)))) (all_in (all_in ((kit_sub w_NoBed_1 w_NoBed_2 t_NoPiece_NoBed w_NoBed_3).trans (by decide)) (all_in ((kit_sub w_NoPiece_1 w_NoPiece_2 w_NoPiece_3 w_NoPiece_3).trans (by decide)) (all_in ((kit_sub w_TooMany_1 w_TooMany_2 t_NoPiece_TooMany w_TooMany_3).trans (by decide)) (all_in ((kit_sub w_Wrong_1 w_Wrong_2 t_NoPiece_Wrong w_Wrong_3).trans (by decide)) no_in)))) (all_in (all_in ((kit_sub w_NoBed_1 w_NoBed_2 t_TooMany_NoBed w_NoBed_3).trans (by decide)) (all_in ((kit_sub w_NoPiece_1 w_NoPiece_2 t_TooMany_NoPiece w_NoPiece_3).trans (by decide)) (all_in ((kit_sub w_TooMany_1 w_TooMany_2 w_TooMany_3 w_TooMany_3).trans (by decide)) (all_in ((kit_sub w_Wrong_1 w_Wrong_2 t_TooMany_Wrong w_Wrong_3).trans (by decide)) no_in)))) (all_in (all_in ((kit_sub w_NoBed_1 w_NoBed_2 t_Wrong_NoBed w_NoBed_3).trans (by decide)) (all_in ((kit_sub w_NoPiece_1 w_NoPiece_2 t_Wrong_NoPiece w_NoPiece_3).trans (by decide)) (all_in ((kit_sub w_TooMany_1 w_TooMany_2 t_Wrong_TooMany w_TooMany_3).trans (by decide)) (all_in ((kit_sub w_Wrong_1 w_Wrong_2 w_Wrong_3 w_Wrong_3).trans (by decide)) no_in)))) no_in))))
    kitV := (all_in (kit_val x_NoBed_h) (all_in (kit_val x_NoPiece_h) (all_in (kit_val x_TooMany_h) (all_in (kit_val x_Wrong_h) no_in))))
    exm := (all_in (all_in (by rw [PySem.W.exm_ref v_StoneError_1 v_StoneError_2 v_StoneError_3 c_NoBed_StoneError]; decide) no_in) (all_in (all_in (by rw [PySem.W.exm_ref v_StoneError_1 v_StoneError_2 v_StoneError_3 c_NoPiece_StoneError]; decide) no_in) (all_in (all_in (by rw [PySem.W.exm_ref v_StoneError_1 v_StoneError_2 v_StoneError_3 c_TooMany_StoneError]; decide) no_in) (all_in (all_in (by rw [PySem.W.exm_ref v_StoneError_1 v_StoneError_2 v_StoneError_3 c_Wrong_StoneError]; decide) no_in) no_in))))
    no := (all_in (all_in f_NoBed_at (all_in f_NoBed_most (all_in f_NoBed_piece no_in))) (all_in (all_in f_NoPiece_at (all_in f_NoPiece_most (all_in f_NoPiece_piece no_in))) (all_in (all_in f_TooMany_at (all_in f_TooMany_most (all_in f_TooMany_piece no_in))) (all_in (all_in f_Wrong_at (all_in f_Wrong_most (all_in f_Wrong_piece no_in))) no_in)))) }
  have Bc : BaseC K mg "StoneError" := ⟨ca "StoneError", PySem.W.mg_of X G u_StoneError, b5, b6, b7⟩
  obtain ⟨fd_NoBed, Fu_NoBed, bn_NoBed⟩ := fun_at (x := "__init__") (qual := "NoBed.__init__") (st := s_ini_NoBed) (ps := ["self", "at"]) x_NoBed_9 x_NoBed_a x_NoBed_b fun _ _ _ _ _ _ us hl => match us, hl with | [_, _], _ => rfl
  have R_NoBed : BareG1 P w K mg base 1 "NoBed" (ca "NoBed") "at" ["self", "at"] := ⟨PySem.W.mg_of X G u_NoBed, f_NoBed_at, I_NoBed, fd_NoBed, ⟨⟨nm_NoBed, q_NoBed, N_NoBed, bs_NoBed, bm_NoBed, sn_NoBed, sub_NoBed, ab_NoBed, col_NoBed, dd_NoBed, k0_NoBed, k1_NoBed, k2_NoBed, k3_NoBed, k5_NoBed, x_NoBed_1, x_NoBed_2⟩, x_NoBed_3, x_NoBed_4, x_NoBed_5, x_NoBed_6⟩, x_NoBed_7, x_NoBed_8, ini_NoBed Fu_NoBed Bc, bn_NoBed⟩
  obtain ⟨fd_NoPiece, Fu_NoPiece, bn_NoPiece⟩ := fun_at (x := "__init__") (qual := "NoPiece.__init__") (st := s_ini_NoPiece) (ps := ["self", "piece"]) x_NoPiece_9 x_NoPiece_a x_NoPiece_b fun _ _ _ _ _ _ us hl => match us, hl with | [_, _], _ => rfl
  have R_NoPiece : BareG1 P w K mg base 1 "NoPiece" (ca "NoPiece") "piece" ["self", "piece"] := ⟨PySem.W.mg_of X G u_NoPiece, f_NoPiece_piece, I_NoPiece, fd_NoPiece, ⟨⟨nm_NoPiece, q_NoPiece, N_NoPiece, bs_NoPiece, bm_NoPiece, sn_NoPiece, sub_NoPiece, ab_NoPiece, col_NoPiece, dd_NoPiece, k0_NoPiece, k1_NoPiece, k2_NoPiece, k3_NoPiece, k5_NoPiece, x_NoPiece_1, x_NoPiece_2⟩, x_NoPiece_3, x_NoPiece_4, x_NoPiece_5, x_NoPiece_6⟩, x_NoPiece_7, x_NoPiece_8, ini_NoPiece Fu_NoPiece Bc, bn_NoPiece⟩
  obtain ⟨fd_TooMany, Fu_TooMany, bn_TooMany⟩ := fun_at (x := "__init__") (qual := "TooMany.__init__") (st := s_ini_TooMany) (ps := ["self", "most"]) x_TooMany_9 x_TooMany_a x_TooMany_b fun _ _ _ _ _ _ us hl => match us, hl with | [_, _], _ => rfl
  have R_TooMany : BareG1 P w K mg base 1 "TooMany" (ca "TooMany") "most" ["self", "most"] := ⟨PySem.W.mg_of X G u_TooMany, f_TooMany_most, I_TooMany, fd_TooMany, ⟨⟨nm_TooMany, q_TooMany, N_TooMany, bs_TooMany, bm_TooMany, sn_TooMany, sub_TooMany, ab_TooMany, col_TooMany, dd_TooMany, k0_TooMany, k1_TooMany, k2_TooMany, k3_TooMany, k5_TooMany, x_TooMany_1, x_TooMany_2⟩, x_TooMany_3, x_TooMany_4, x_TooMany_5, x_TooMany_6⟩, x_TooMany_7, x_TooMany_8, ini_TooMany Fu_TooMany Bc, bn_TooMany⟩
  obtain ⟨fd_Wrong, Fu_Wrong, bn_Wrong⟩ := fun_at (x := "__init__") (qual := "Wrong.__init__") (st := s_ini_Wrong) (ps := ["self", "at"]) x_Wrong_9 x_Wrong_a x_Wrong_b fun _ _ _ _ _ _ us hl => match us, hl with | [_, _], _ => rfl
  have R_Wrong : BareG1 P w K mg base 1 "Wrong" (ca "Wrong") "at" ["self", "at"] := ⟨PySem.W.mg_of X G u_Wrong, f_Wrong_at, I_Wrong, fd_Wrong, ⟨⟨nm_Wrong, q_Wrong, N_Wrong, bs_Wrong, bm_Wrong, sn_Wrong, sub_Wrong, ab_Wrong, col_Wrong, dd_Wrong, k0_Wrong, k1_Wrong, k2_Wrong, k3_Wrong, k5_Wrong, x_Wrong_1, x_Wrong_2⟩, x_Wrong_3, x_Wrong_4, x_Wrong_5, x_Wrong_6⟩, x_Wrong_7, x_Wrong_8, ini_Wrong Fu_Wrong Bc, bn_Wrong⟩
  have C_bag : Callee P w K mg base 1 "_law_bag" ["_law_script"] [] bagS := ok_bag D_bag B
  have C_take : Callee P w K mg base 1 "_law_take" ["_law_bag_here", "_law_many"] [0] takeX := ok_take D_take B
  have C_grains : Callee P w K mg base 2 "_law_grains" ["_law_bag_here"] [0] grainsS := ok_grains D_grains B C_take
  have C_measure : Callee P w K mg base 2 "_law_measure" ["_law_bag_here"] [0] measS := ok_measure D_measure C_take
  have C_rising : Callee P w K mg base 2 "_law_rising" ["_law_bag_here", "_law_count", "_law_end"] [0] risingS := ok_rising D_rising B C_take
  have C_bed : Callee P w K mg base 3 "_law_bed" ["_law_bag_here", "_law_grains_here", "_law_height", "_law_cap", "_law_length", "_law_width"] [0] lbedS := ok_bed D_bed B C_take C_rising
  have C_bench : Callee P w K mg base 4 "_law_bench" ["_law_bag_here"] [0] lbenchS := ok_bench D_bench B C_grains C_measure C_take C_bed
  have C_is_whole : Callee P w K mg base 1 "is_whole" ["thing"] [] wholeS := ok_is_whole D_is_whole B
  have C_is_between : Callee P w K mg base 2 "is_between" ["thing", "least", "most"] [] betweenS := ok_is_between D_is_between C_is_whole
  have C_is_measure : Callee P w K mg base 3 "is_measure" ["thing"] [] measureS := ok_is_measure D_is_measure B C_is_between
  have C_is_spot : Callee P w K mg base 3 "is_spot" ["thing"] [] spotS := ok_is_spot D_is_spot B C_is_between
  have C_are_joints : Callee P w K mg base 4 "are_joints" ["thing"] [] jointsX := ok_are_joints D_are_joints B C_is_spot
  have C_is_grain : Callee P w K mg base 1 "is_grain" ["thing"] [] grainX := ok_is_grain D_is_grain B
  have C_is_bed : Callee P w K mg base 5 "is_bed" ["thing"] [] bedX := ok_is_bed D_is_bed B C_are_joints C_is_measure C_is_grain C_is_whole
  have C_are_beds : Callee P w K mg base 6 "are_beds" ["thing"] [] bedsX := ok_are_beds D_are_beds B C_is_bed
  have C_like_bed : Callee P w K mg base 1 "like_bed" ["bed"] [] likeS := ok_like_bed D_like_bed B
  have C_stretches_of : Callee P w K mg base 1 "stretches_of" ["joints", "end"] [] stretchS := ok_stretches_of D_stretches_of B
  have C_pieces_of : Callee P w K mg base 2 "pieces_of" ["length", "width", "bed", "z"] [] piecesS := ok_pieces_of D_pieces_of C_stretches_of
  have C_joints_stand : Callee P w K mg base 1 "joints_stand" ["joints", "end"] [] standX := ok_joints_stand D_joints_stand
  have C_Bench_init : CalleeK P w K mg base 7 "Bench" (ca "Bench") ["self", "length", "width", "beds"] (initX ca) := ok_Bench_init D_Bench_init B KC_Bench KN_Bench R_NoBed R_TooMany R_Wrong C_is_measure C_are_beds C_like_bed C_pieces_of C_joints_stand
  have C_Bench_size : CalleeM P w K mg base 1 (ca "Bench") "size" ["self"] [] (sizeS ca) := ok_Bench_size D_Bench_size KC_Bench KN_Bench
  have C_Bench_many : CalleeM P w K mg base 1 (ca "Bench") "many" ["self"] [] (manyS ca) := ok_Bench_many D_Bench_many B KC_Bench KN_Bench
  have C_Bench_beds : CalleeM P w K mg base 2 (ca "Bench") "beds" ["self"] [] (bedsS ca) := ok_Bench_beds D_Bench_beds KC_Bench KN_Bench C_like_bed
  have C_Bench_piece_kept : CalleeM P w K mg base 3 (ca "Bench") "piece_kept" ["self", "piece"] [] (keptX ca) := ok_Bench_piece_kept D_Bench_piece_kept B KC_Bench KN_Bench R_NoPiece R_Wrong C_is_whole
  have C_Bench_box : CalleeM P w K mg base 4 (ca "Bench") "box" ["self", "piece"] [] (bboxX ca) := ok_Bench_box D_Bench_box KC_Bench KN_Bench C_Bench_piece_kept
  have C_Bench_grain : CalleeM P w K mg base 4 (ca "Bench") "grain" ["self", "piece"] [] (grnX ca) := ok_Bench_grain D_Bench_grain KC_Bench KN_Bench C_Bench_piece_kept
  have C_Bench_heavy : CalleeM P w K mg base 4 (ca "Bench") "heavy" ["self", "piece"] [] (hvyX ca) := ok_Bench_heavy D_Bench_heavy KC_Bench KN_Bench C_Bench_piece_kept
  have C_shown : Callee P w K mg base 5 "_law_shown" ["_law_bench_here"] [] (shownX ca) := ok_shown D_shown B KC_Bench KN_Bench C_Bench_size C_Bench_many C_Bench_beds C_Bench_box C_Bench_grain C_Bench_heavy
  have C_edges : Callee P w K mg base 2 "_law_edges" ["_law_bag_here"] [0] edgesX := ok_edges D_edges B C_take
  have C_copy : Callee P w K mg base 1 "_law_copy" ["_law_beds"] [] copyX := ok_copy D_copy B
  have C_spoilt : Callee P w K mg base 2 "_law_spoilt" ["_law_bag_here", "_law_joints", "_law_end"] [0] spoiltX := ok_spoilt D_spoilt B C_take
  have C_wild : Callee P w K mg base 4 "_law_wild" ["_law_bag_here"] [0] wildX := ok_wild D_wild B C_measure C_grains C_take C_bed C_spoilt
  have C_due : Callee P w K mg base 1 "_law_due" ["_law_length", "_law_width", "_law_beds"] [] ldueX := ok_due D_due B
  have C_alike : Callee P w K mg base 1 "_law_alike" ["_law_found", "_law_due_here"] [] alikeS := ok_alike D_alike B
  have C_bad_measure : Callee P w K mg base 2 "_law_bad_measure" ["_law_bag_here"] [0] bmeasX := ok_bad_measure D_bad_measure C_take
  have C_bad_joints : Callee P w K mg base 2 "_law_bad_joints" ["_law_bag_here", "_law_joints"] [0] bjntX := ok_bad_joints D_bad_joints B C_take
  have C_bad_bed : Callee P w K mg base 3 "_law_bad_bed" ["_law_bag_here", "_law_bed_here"] [0] bbedX := ok_bad_bed D_bad_bed B C_take C_bad_measure C_bad_joints
  have C_bad_beds : Callee P w K mg base 4 "_law_bad_beds" ["_law_bag_here", "_law_beds"] [0] bbedsX := ok_bad_beds D_bad_beds B C_take C_copy C_bad_bed
  have C_sort : CalleeP P w K mg base 1 "_law_sort" ["_law_e"] (lsortX ca) := ok_sort D_sort B T
  have C_made : Callee P w K mg base 9 "_law_made" ["_law_length", "_law_width", "_law_beds"] [] lmadeX := ok_made D_made T C_Bench_init C_sort
  have C_wrongs : Callee P w K mg base 10 "_law_wrongs" ["_law_bag_here", "_law_length", "_law_width", "_law_beds"] [0] wrongsX := ok_wrongs D_wrongs B SB C_take C_bad_measure C_bad_beds C_alike C_made
  have C_are_between : Callee P w K mg base 3 "are_between" ["things", "least", "most"] [] areS := ok_are_between D_are_between C_is_between
  have C_is_point : Callee P w K mg base 4 "is_point" ["thing"] [] pointS := ok_is_point D_is_point B C_are_between
  have C_refuse_wrong : Callee P w K mg base 1 "refuse_wrong" ["rights"] [] (refuseS noF) := ok_refuse_wrong D_refuse_wrong B
  have C_is_box : Callee P w K mg base 4 "is_box" ["thing"] [] boxS := ok_is_box D_is_box B C_is_spot C_is_measure
  have C_has_point : Callee P w K mg base 5 "has_point" ["box", "point"] [] (hasS noF) := ok_has_point D_has_point B C_refuse_wrong C_is_box C_is_point
  have C_Bench_piece_at : CalleeM P w K mg base 6 (ca "Bench") "piece_at" ["self", "point"] [] (pieceAtX ca) := ok_Bench_piece_at D_Bench_piece_at B KC_Bench KN_Bench R_Wrong C_is_point C_has_point
  have C_asked : Callee P w K mg base 7 "_law_asked" ["_law_bench_here", "_law_word", "_law_thing"] [] (askedX ca) := ok_asked D_asked T KC_Bench KN_Bench C_Bench_piece_at C_sort C_Bench_box C_Bench_grain C_Bench_heavy
  have C_pieces_refused : Callee P w K mg base 8 "_law_pieces_refused" ["_law_bag_here", "_law_bench_here"] [0] (piecesX ca) := ok_pieces_refused D_pieces_refused B KC_Bench KN_Bench C_Bench_many C_take C_Bench_piece_at C_alike C_asked
  have C_law : Callee P w K mg base 11 "law" ["_law_script"] [] (lawS 63) := ok_law D_law B C_bag C_bench C_Bench_init C_shown C_edges C_copy C_wild C_due C_take C_alike C_wrongs C_pieces_refused C_made
  exact C_law
end My
open PySem PySem.W PyProof.Rows
set_option maxHeartbeats 0 in
theorem PySem.Challenge.cw_bedstone_k23_bench_refused_holds : PySem.Challenge.rw_bedstone_k23_bench_refused.Holds := by
  w_on; o_law; k_head; (case hw => w_witness2)
  k_fill
  refine QV.walk_ofS (l := PySem.Challenge.rw_bedstone_k23_bench_refused) (n := 63) (k := 11) (x := "_law_script") rfl (by decide) rfl ⟨rfl, by decide, by decide⟩ (by decide +kernel) (fun w h Y => PySem.W.kIn_of Y) ?F
  case F =>
    intro w mg h KX G base SB
    refine' My.all_mk KX G base SB ?a0 ?l0 ?c0 ?k0 ?a1 ?l1 ?c1 ?k1 ?a2 ?l2 ?c2 ?k2 ?a3 ?l3 ?c3 ?k3 ?a4 ?l4 ?c4 ?k4 ?a5 ?l5 ?c5 ?k5 ?a6 ?l6 ?c6 ?k6 ?a7 ?l7 ?c7 ?k7 ?a8 ?l8 ?c8 ?k8 ?a9 ?l9 ?c9 ?k9 ?a10 ?l10 ?c10 ?k10 ?a11 ?l11 ?c11 ?k11 ?a12 ?l12 ?c12 ?k12 ?a13 ?l13 ?c13 ?k13 ?a14 ?l14 ?c14 ?k14 ?a15 ?l15 ?c15 ?k15 ?a16 ?l16 ?c16 ?k16 ?a17 ?i17 ?l17 ?c17 ?k17 ?a18 ?i18 ?l18 ?c18 ?k18 ?a19 ?i19 ?l19 ?c19 ?k19 ?a20 ?i20 ?l20 ?c20 ?k20 ?a21 ?i21 ?l21 ?c21 ?k21 ?a22 ?i22 ?l22 ?c22 ?k22 ?a23 ?i23 ?l23 ?c23 ?k23 ?a24 ?i24 ?l24 ?c24 ?k24 ?a25 ?i25 ?l25 ?c25 ?k25 ?a26 ?l26 ?c26 ?k26 ?a27 ?l27 ?c27 ?k27 ?a28 ?l28 ?c28 ?k28 ?a29 ?l29 ?c29 ?k29 ?a30 ?l30 ?c30 ?k30 ?a31 ?l31 ?c31 ?k31 ?a32 ?l32 ?c32 ?k32 ?a33 ?l33 ?c33 ?k33 ?a34 ?l34 ?c34 ?k34 ?a35 ?l35 ?c35 ?k35 ?a36 ?l36 ?c36 ?k36 ?a37 ?l37 ?c37 ?k37 ?a38 ?l38 ?c38 ?k38 ?a39 ?l39 ?c39 ?k39 ?a40 ?l40 ?c40 ?k40 ?a41 ?l41 ?c41 ?k41 ?a42 ?l42 ?c42 ?k42 ?a43 ?l43 ?c43 ?k43 ?a44 ?l44 ?c44 ?k44 ?a45 ?l45 ?c45 ?k45 ?a46 ?l46 ?c46 ?k46 ?a47 ?l47 ?c47 ?k47 ?a48 ?l48 ?c48 ?k48 ?a49 ?l49 ?c49 ?k49 ?z0 ?z1 ?z2 ?z3 ?z4 ?z5 ?z6 ?z7 ?z8 ?z9 ?z10 ?z11 ?z12 ?z13 ?z14 ?z15 ?y0 ?y1 ?y2 ?y3 ?y4 ?y5 ?y6 ?y7 ?y8 ?kA_Bench ?kP_Bench ?kD_Bench ?kO_Bench ?kS_Bench ?kM_Bench ?kK_Bench ?kN_Bench_kept_beds ?kN_Bench_kept_pieces ?kN_Bench_long_and_wide ?kN_Bench_top ?u_NoBed ?u_NoPiece ?u_StoneError ?u_TooMany ?u_Wrong ?b5 ?b6 ?b7 ?b8 ?b9 ?v_StoneError_1 ?v_StoneError_2 ?v_StoneError_3 ?w_NoBed_1 ?w_NoBed_2 ?w_NoBed_3 ?w_NoPiece_1 ?w_NoPiece_2 ?w_NoPiece_3 ?w_TooMany_1 ?w_TooMany_2 ?w_TooMany_3 ?w_Wrong_1 ?w_Wrong_2 ?w_Wrong_3 ?x_NoBed_1 ?x_NoBed_2 ?x_NoBed_3 ?x_NoBed_4 ?x_NoBed_5 ?x_NoBed_6 ?x_NoBed_7 ?x_NoBed_8 ?x_NoBed_9 ?x_NoBed_a ?x_NoBed_b ?x_NoBed_c ?x_NoBed_d ?x_NoBed_e ?x_NoBed_f ?x_NoBed_g ?x_NoBed_h ?t_NoBed_NoPiece ?t_NoBed_TooMany ?t_NoBed_Wrong ?c_NoBed_StoneError ?f_NoBed_at ?f_NoBed_most ?f_NoBed_piece ?x_NoPiece_1 ?x_NoPiece_2 ?x_NoPiece_3 ?x_NoPiece_4 ?x_NoPiece_5 ?x_NoPiece_6 ?x_NoPiece_7 ?x_NoPiece_8 ?x_NoPiece_9 ?x_NoPiece_a ?x_NoPiece_b ?x_NoPiece_c ?x_NoPiece_d ?x_NoPiece_e ?x_NoPiece_f ?x_NoPiece_g ?x_NoPiece_h ?t_NoPiece_NoBed ?t_NoPiece_TooMany ?t_NoPiece_Wrong ?c_NoPiece_StoneError ?f_NoPiece_at ?f_NoPiece_most ?f_NoPiece_piece ?x_TooMany_1 ?x_TooMany_2 ?x_TooMany_3 ?x_TooMany_4 ?x_TooMany_5 ?x_TooMany_6 ?x_TooMany_7 ?x_TooMany_8 ?x_TooMany_9 ?x_TooMany_a ?x_TooMany_b ?x_TooMany_c ?x_TooMany_d ?x_TooMany_e ?x_TooMany_f ?x_TooMany_g ?x_TooMany_h ?t_TooMany_NoBed ?t_TooMany_NoPiece ?t_TooMany_Wrong ?c_TooMany_StoneError ?f_TooMany_at ?f_TooMany_most ?f_TooMany_piece ?x_Wrong_1 ?x_Wrong_2 ?x_Wrong_3 ?x_Wrong_4 ?x_Wrong_5 ?x_Wrong_6 ?x_Wrong_7 ?x_Wrong_8 ?x_Wrong_9 ?x_Wrong_a ?x_Wrong_b ?x_Wrong_c ?x_Wrong_d ?x_Wrong_e ?x_Wrong_f ?x_Wrong_g ?x_Wrong_h ?t_Wrong_NoBed ?t_Wrong_NoPiece ?t_Wrong_TooMany ?c_Wrong_StoneError ?f_Wrong_at ?f_Wrong_most ?f_Wrong_piece
    (case kA_Bench => k_is); (case a17 => k_is); (case i17 => k_is); (case a18 => k_is); (case i18 => k_is); (case a19 => k_is); (case i19 => k_is); (case a20 => k_is); (case i20 => k_is); (case a21 => k_is); (case i21 => k_is); (case a22 => k_is); (case i22 => k_is); (case a23 => k_is); (case i23 => k_is); (case a24 => k_is); (case i24 => k_is); (case a25 => k_is); (case i25 => k_is); (case a0 => k_is); (case l0 => k_is); (case c0 => k_is); (case k0 => k_is); (case a1 => k_is); (case l1 => k_is); (case c1 => k_is); (case k1 => k_is); (case a2 => k_is); (case l2 => k_is); (case c2 => k_is); (case k2 => k_is); (case a3 => k_is); (case l3 => k_is); (case c3 => k_is); (case k3 => k_is); (case a4 => k_is); (case l4 => k_is); (case c4 => k_is); (case k4 => k_is); (case a5 => k_is); (case l5 => k_is); (case c5 => k_is); (case k5 => k_is); (case a6 => k_is); (case l6 => k_is); (case c6 => k_is); (case k6 => k_is); (case a7 => k_is); (case l7 => k_is); (case c7 => k_is); (case k7 => k_is); (case a8 => k_is); (case l8 => k_is); (case c8 => k_is); (case k8 => k_is); (case a9 => k_is); (case l9 => k_is); (case c9 => k_is); (case k9 => k_is); (case a10 => k_is); (case l10 => k_is); (case c10 => k_is); (case k10 => k_is); (case a11 => k_is); (case l11 => k_is); (case c11 => k_is); (case k11 => k_is); (case a12 => k_is); (case l12 => k_is); (case c12 => k_is); (case k12 => k_is); (case a13 => k_is); (case l13 => k_is); (case c13 => k_is); (case k13 => k_is); (case a14 => k_is); (case l14 => k_is); (case c14 => k_is); (case k14 => k_is); (case a15 => k_is); (case l15 => k_is); (case c15 => k_is); (case k15 => k_is); (case a16 => k_is); (case l16 => k_is); (case c16 => k_is); (case k16 => k_is); (case l17 => k_is); (case c17 => k_is); (case k17 => k_is); (case l18 => k_is); (case c18 => k_is); (case k18 => k_is); (case l19 => k_is); (case c19 => k_is); (case k19 => k_is); (case l20 => k_is); (case c20 => k_is); (case k20 => k_is); (case l21 => k_is); (case c21 => k_is); (case k21 => k_is); (case l22 => k_is); (case c22 => k_is); (case k22 => k_is); (case l23 => k_is); (case c23 => k_is); (case k23 => k_is); (case l24 => k_is); (case c24 => k_is); (case k24 => k_is); (case l25 => k_is); (case c25 => k_is); (case k25 => k_is); (case a26 => k_is); (case l26 => k_is); (case c26 => k_is); (case k26 => k_is); (case a27 => k_is); (case l27 => k_is); (case c27 => k_is); (case k27 => k_is); (case a28 => k_is); (case l28 => k_is); (case c28 => k_is); (case k28 => k_is); (case a29 => k_is); (case l29 => k_is); (case c29 => k_is); (case k29 => k_is); (case a30 => k_is); (case l30 => k_is); (case c30 => k_is); (case k30 => k_is); (case a31 => k_is); (case l31 => k_is); (case c31 => k_is); (case k31 => k_is); (case a32 => k_is); (case l32 => k_is); (case c32 => k_is); (case k32 => k_is); (case a33 => k_is); (case l33 => k_is); (case c33 => k_is); (case k33 => k_is); (case a34 => k_is); (case l34 => k_is); (case c34 => k_is); (case k34 => k_is); (case a35 => k_is); (case l35 => k_is); (case c35 => k_is); (case k35 => k_is); (case a36 => k_is); (case l36 => k_is); (case c36 => k_is); (case k36 => k_is); (case a37 => k_is); (case l37 => k_is); (case c37 => k_is); (case k37 => k_is); (case a38 => k_is); (case l38 => k_is); (case c38 => k_is); (case k38 => k_is); (case a39 => k_is); (case l39 => k_is); (case c39 => k_is); (case k39 => k_is); (case a40 => k_is); (case l40 => k_is); (case c40 => k_is); (case k40 => k_is); (case a41 => k_is); (case l41 => k_is); (case c41 => k_is); (case k41 => k_is); (case a42 => k_is); (case l42 => k_is); (case c42 => k_is); (case k42 => k_is); (case a43 => k_is); (case l43 => k_is); (case c43 => k_is); (case k43 => k_is); (case a44 => k_is); (case l44 => k_is); (case c44 => k_is); (case k44 => k_is); (case a45 => k_is); (case l45 => k_is); (case c45 => k_is); (case k45 => k_is); (case a46 => k_is); (case l46 => k_is); (case c46 => k_is); (case k46 => k_is); (case a47 => k_is); (case l47 => k_is); (case c47 => k_is); (case k47 => k_is); (case a48 => k_is); (case l48 => k_is); (case c48 => k_is); (case k48 => k_is); (case a49 => k_is); (case l49 => k_is); (case c49 => k_is); (case k49 => k_is); (case z0 => k_is); (case z1 => k_is); (case z2 => k_is); (case z3 => k_is); (case z4 => k_is); (case z5 => k_is); (case z6 => k_is); (case z7 => k_is); (case z8 => k_is); (case z9 => k_is); (case z10 => k_is); (case z11 => k_is); (case z12 => k_is); (case z13 => k_is); (case z14 => k_is); (case z15 => k_is); (case y0 => k_is); (case y1 => k_is); (case y2 => k_is); (case y3 => k_is); (case y4 => k_is); (case y5 => k_is); (case y6 => k_is); (case y7 => k_is); (case y8 => k_is); (case kP_Bench => k_is); (case kD_Bench => k_is); (case kO_Bench => k_is); (case kS_Bench => k_is); (case kM_Bench => k_is); (case kK_Bench => k_is); (case kN_Bench_kept_beds => k_is); (case kN_Bench_kept_pieces => k_is); (case kN_Bench_long_and_wide => k_is); (case kN_Bench_top => k_is); (case u_NoBed => k_is); (case u_NoPiece => k_is); (case u_StoneError => k_is); (case u_TooMany => k_is); (case u_Wrong => k_is); (case b5 => k_is); (case b6 => k_is); (case b7 => k_is); (case b8 => k_is); (case b9 => k_is); (case v_StoneError_1 => k_is); (case v_StoneError_2 => k_is); (case v_StoneError_3 => k_is); (case w_NoBed_1 => k_is); (case w_NoBed_2 => k_is); (case w_NoBed_3 => k_is); (case w_NoPiece_1 => k_is); (case w_NoPiece_2 => k_is); (case w_NoPiece_3 => k_is); (case w_TooMany_1 => k_is); (case w_TooMany_2 => k_is); (case w_TooMany_3 => k_is); (case w_Wrong_1 => k_is); (case w_Wrong_2 => k_is); (case w_Wrong_3 => k_is); (case x_NoBed_1 => k_is); (case x_NoBed_2 => first | k_is | rfl | decide +kernel); (case x_NoBed_3 => k_is); (case x_NoBed_4 => k_is); (case x_NoBed_5 => k_is); (case x_NoBed_6 => k_is); (case x_NoBed_7 => k_is); (case x_NoBed_8 => k_is); (case x_NoBed_9 => k_is); (case x_NoBed_a => k_is); (case x_NoBed_b => k_is); (case x_NoBed_c => k_is); (case x_NoBed_d => k_is); (case x_NoBed_e => k_is); (case x_NoBed_f => k_is); (case x_NoBed_g => k_is); (case x_NoBed_h => k_is); (case t_NoBed_NoPiece => k_is); (case t_NoBed_TooMany => k_is); (case t_NoBed_Wrong => k_is); (case c_NoBed_StoneError => k_is); (case f_NoBed_at => k_is); (case f_NoBed_most => k_is); (case f_NoBed_piece => k_is); (case x_NoPiece_1 => k_is); (case x_NoPiece_2 => first | k_is | rfl | decide +kernel); (case x_NoPiece_3 => k_is); (case x_NoPiece_4 => k_is); (case x_NoPiece_5 => k_is); (case x_NoPiece_6 => k_is); (case x_NoPiece_7 => k_is); (case x_NoPiece_8 => k_is); (case x_NoPiece_9 => k_is); (case x_NoPiece_a => k_is); (case x_NoPiece_b => k_is); (case x_NoPiece_c => k_is); (case x_NoPiece_d => k_is); (case x_NoPiece_e => k_is); (case x_NoPiece_f => k_is); (case x_NoPiece_g => k_is); (case x_NoPiece_h => k_is); (case t_NoPiece_NoBed => k_is); (case t_NoPiece_TooMany => k_is); (case t_NoPiece_Wrong => k_is); (case c_NoPiece_StoneError => k_is); (case f_NoPiece_at => k_is); (case f_NoPiece_most => k_is); (case f_NoPiece_piece => k_is); (case x_TooMany_1 => k_is); (case x_TooMany_2 => first | k_is | rfl | decide +kernel); (case x_TooMany_3 => k_is); (case x_TooMany_4 => k_is); (case x_TooMany_5 => k_is); (case x_TooMany_6 => k_is); (case x_TooMany_7 => k_is); (case x_TooMany_8 => k_is); (case x_TooMany_9 => k_is); (case x_TooMany_a => k_is); (case x_TooMany_b => k_is); (case x_TooMany_c => k_is); (case x_TooMany_d => k_is); (case x_TooMany_e => k_is); (case x_TooMany_f => k_is); (case x_TooMany_g => k_is); (case x_TooMany_h => k_is); (case t_TooMany_NoBed => k_is); (case t_TooMany_NoPiece => k_is); (case t_TooMany_Wrong => k_is); (case c_TooMany_StoneError => k_is); (case f_TooMany_at => k_is); (case f_TooMany_most => k_is); (case f_TooMany_piece => k_is); (case x_Wrong_1 => k_is); (case x_Wrong_2 => first | k_is | rfl | decide +kernel); (case x_Wrong_3 => k_is); (case x_Wrong_4 => k_is); (case x_Wrong_5 => k_is); (case x_Wrong_6 => k_is); (case x_Wrong_7 => k_is); (case x_Wrong_8 => k_is); (case x_Wrong_9 => k_is); (case x_Wrong_a => k_is); (case x_Wrong_b => k_is); (case x_Wrong_c => k_is); (case x_Wrong_d => k_is); (case x_Wrong_e => k_is); (case x_Wrong_f => k_is); (case x_Wrong_g => k_is); (case x_Wrong_h => k_is); (case t_Wrong_NoBed => k_is); (case t_Wrong_NoPiece => k_is); (case t_Wrong_TooMany => k_is); (case c_Wrong_StoneError => k_is); (case f_Wrong_at => k_is); (case f_Wrong_most => k_is); (case f_Wrong_piece => k_is)




