import PyProof.Rows.All
import Wide.All
import OpenK.AllK
import Wide.FinOn
import HandS.ForMost
import HandS.Exc
import HandS.TryOnly
import HandS.ExcOwn
import HandS.WordsExc
import HandS.Wide
import HandS.Deep
import HandS.TupAny
import HandS.SortInts
import HandS.Style
import HandS.IsInst
import HandS.Conv
import HandS.Keys
import HandS.TupSets
import HandS.SetFor
import HandS.ExcInit
import HandS.ExcIs
import HandS.ExcField
import HandS.HotCalls
import HandS.SortKw
import KE.GoesEnumKw
import HandS.Dict
import HandS.More
import PyProof.EqAt
import HandS.DictTup
import HandS.Small
import HandS.Strs
import PySem.Challenge.RW_bedstone_k55_whole_closed
set_option Elab.async false
set_option linter.all false
set_option maxRecDepth 100000
set_option maxHeartbeats 2000000
namespace QV
open PySem L2

inductive Lab where
  | fr | base | sl (i : Nat) | tm (k : Nat)
  deriving DecidableEq
abbrev Ow := Addr → Lab

inductive Kd where
  | lst | tup | dK (ks : List Key) | dT (ks : List (List Key)) | ins (C : Addr) (ks : List Str)
inductive D where
  | non | bl (b : Bool) | int (i : Int) | str (x : Str) | scr (ns : List Int) | nd (k : Kd) (ds : List D) | exc (a C : Addr) (d : Option Addr) (ks : List Str) (ds : List D)
inductive T where
  | fz (d : D) | ow (k : Kd) (ds : List D) | nd (k : Kd) (ts : List T)
abbrev Env := List (Option T)

mutual
def T.d : T → D
  | .fz d => d
  | .ow k ds => .nd k ds
  | .nd k ts => .nd k (Tsd ts)
def Tsd : List T → List D
  | [] => []
  | t :: ts => T.d t :: Tsd ts
end
theorem tsd_map : ∀ ts : List T, Tsd ts = ts.map T.d
  | [] => rfl
  | t :: ts => by rw [Tsd, tsd_map ts]; rfl
theorem tsd_len : ∀ ts : List T, (Tsd ts).length = ts.length := fun ts => by rw [tsd_map, List.length_map]

def Bs (H : Hp) (ow : Ow) : Hp := fun a => if ow a = .base then H a else none
theorem bs_of {H : Hp} {ow : Ow} {a : Addr} (h : ow a = .base) : Bs H ow a = H a := if_pos h
theorem bs_some {H : Hp} {ow : Ow} {a : Addr} {o : HO} (h : Bs H ow a = some o) : ow a = .base ∧ H a = some o := by
  unfold Bs at h
  by_cases e : ow a = .base
  · rw [if_pos e] at h; exact ⟨e, h⟩
  · rw [if_neg e] at h; cases h
def HOof (k : Kd) (dx : Addr) (vs : List V) : HO := match k with
  | .lst => .lst vs
  | .tup => .tup vs
  | .dK ks => .dK (ks.zip vs)
  | .dT ks => .dT (ks.zip vs)
  | .ins C ks => .ins C dx (ks.zip vs)
def Fits (H : Hp) (a dx : Addr) (k : Kd) (vs : List V) : Prop := match k with
  | .lst => True
  | .tup => True
  | .dK ks => ks.length = vs.length
  | .dT ks => ks.length = vs.length
  | .ins _ ks => ks.length = vs.length ∧ H dx = some (.own a) ∧ dx ≠ a
structure Cell (H : Hp) (a dx : Addr) (k : Kd) (vs : List V) : Prop where
  at_ : H a = some (HOof k dx vs)
  sz : vs.length ≤ sizeLine
  fit : Fits H a dx k vs
def Foot (a dx : Addr) (k : Kd) (b : Addr) : Prop := match k with
  | .ins _ _ => b = a ∨ b = dx
  | _ => b = a
theorem foot_a {a dx : Addr} {k : Kd} : Foot a dx k a := by cases k <;> first | rfl | exact .inl rfl

section
variable {K : PySem.W.Frag}
mutual
inductive Rp (K : PySem.W.Frag) (B : Hp) : V → D → Prop
  | non : Rp K B .non .non
  | bl (b : Bool) : Rp K B (.bl b) (.bl b)
  | int (i : Int) : Rp K B (.int i) (.int i)
  | str (x : Str) : Rp K B (.str x) (.str x)
  | scr {a : Addr} {ns : List Int} : SqL K B a (ns.map V.int) → Rp K B (.ref a) (.scr ns)
  | exc0 (a C : Addr) : Rp K B (.ref a) (.exc a C none [] [])
  | exc1 {a C dd : Addr} {ks : List Str} {vs : List V} {ds : List D} : B dd = some (.xd (ks.zip vs)) → ks.length = vs.length → Rps K B vs ds → Rp K B (.ref a) (.exc a C (some dd) ks ds)
  | tup {a : Addr} {vs : List V} {ds : List D} : B a = some (.tup vs) → vs.length ≤ sizeLine → Rps K B vs ds → Rp K B (.ref a) (.nd .tup ds)
  | cell {a dx : Addr} {k : Kd} {vs : List V} {ds : List D} : k ≠ .tup → Cell B a dx k vs → Rps K B vs ds → Rp K B (.ref a) (.nd k ds)
inductive Rps (K : PySem.W.Frag) (B : Hp) : List V → List D → Prop
  | nil : Rps K B [] []
  | cons {v : V} {d : D} {vs : List V} {ds : List D} : Rp K B v d → Rps K B vs ds → Rps K B (v :: vs) (d :: ds)
end

theorem Cell.mono {B B' : Hp} (e : Same B B') {a dx : Addr} {k : Kd} {vs : List V} (c : Cell B a dx k vs) : Cell B' a dx k vs := by
  refine ⟨e _ _ c.at_, c.sz, ?_⟩
  have f := c.fit
  cases k with
  | ins C ks => exact ⟨f.1, e _ _ f.2.1, f.2.2⟩
  | _ => exact f
theorem sqT_of {K : PySem.W.Frag} {H : Hp} {a : Addr} {xs : List V} (h : H a = some (.tup xs)) : SqT K H a xs := .inl (.inl h)
theorem sqT_mono {B B' : Hp} (e : Same B B') {a : Addr} {xs : List V} (h : SqT K B a xs) : SqT K B' a xs := by
  rcases h with (h | ⟨o, h⟩) | h
  · exact .inl (.inl (e _ _ h))
  · exact .inl (.inr ⟨o, e _ _ h⟩)
  · exact .inr h
mutual
theorem Rp.mono {B B' : Hp} (e : Same B B') : ∀ {v : V} {d : D}, Rp K B v d → Rp K B' v d
  | _, _, .non => .non
  | _, _, .bl b => .bl b
  | _, _, .int i => .int i
  | _, _, .str x => .str x
  | _, _, .scr h => .scr (e.seq h)
  | _, _, .exc0 a C => .exc0 a C
  | _, _, .exc1 h l r => .exc1 (e _ _ h) l (Rps.mono e r)
  | _, _, .tup h z r => .tup (e _ _ h) z (Rps.mono e r)
  | _, _, .cell n c r => .cell n (c.mono e) (Rps.mono e r)
theorem Rps.mono {B B' : Hp} (e : Same B B') : ∀ {vs : List V} {ds : List D}, Rps K B vs ds → Rps K B' vs ds
  | _, _, .nil => .nil
  | _, _, .cons r t => .cons (Rp.mono e r) (Rps.mono e t)
end
theorem Rps.len {B : Hp} : ∀ {vs : List V} {ds : List D}, Rps K B vs ds → vs.length = ds.length
  | _, _, .nil => rfl
  | _, _, .cons _ t => by rw [List.length_cons, List.length_cons, Rps.len t]
theorem Rps.get {B : Hp} : ∀ {vs : List V} {ds : List D} {i : Nat} {d : D}, Rps K B vs ds → ds[i]? = some d → ∃ v, vs[i]? = some v ∧ Rp K B v d
  | _, _, _, _, .nil, e => by simp at e
  | _, _, 0, _, .cons r _, e => by simp at e; subst e; exact ⟨_, rfl, r⟩
  | _, _, i + 1, d, .cons _ t, e => by
    obtain ⟨v, h1, h2⟩ := Rps.get (i := i) (d := d) t (by simpa using e)
    exact ⟨v, by simpa using h1, h2⟩
theorem Rps.getV {B : Hp} : ∀ {vs : List V} {ds : List D} {i : Nat} {v : V}, Rps K B vs ds → vs[i]? = some v → ∃ d, ds[i]? = some d ∧ Rp K B v d
  | _, _, _, _, .nil, e => by simp at e
  | _, _, 0, _, .cons r _, e => by simp at e; subst e; exact ⟨_, rfl, r⟩
  | _, _, i + 1, v, .cons _ t, e => by
    obtain ⟨d, h1, h2⟩ := Rps.getV (i := i) (v := v) t (by simpa using e)
    exact ⟨d, by simpa using h1, h2⟩
theorem Rps.app {B : Hp} : ∀ {vs ws : List V} {ds es : List D}, Rps K B vs ds → Rps K B ws es → Rps K B (vs ++ ws) (ds ++ es)
  | _, _, _, _, .nil, s => s
  | _, _, _, _, .cons r t, s => .cons r (Rps.app t s)
theorem Rps.take {B : Hp} : ∀ {vs : List V} {ds : List D} (n : Nat), Rps K B vs ds → Rps K B (vs.take n) (ds.take n)
  | _, _, 0, _ => by simpa using Rps.nil
  | _, _, _ + 1, .nil => .nil
  | _, _, n + 1, .cons r t => .cons r (Rps.take n t)
theorem Rps.drop {B : Hp} : ∀ {vs : List V} {ds : List D} (n : Nat), Rps K B vs ds → Rps K B (vs.drop n) (ds.drop n)
  | _, _, 0, r => r
  | _, _, _ + 1, .nil => .nil
  | _, _, n + 1, .cons _ t => Rps.drop n t
theorem Rps.set {B : Hp} {v : V} {d : D} (q : Rp K B v d) : ∀ {vs : List V} {ds : List D} (n : Nat), Rps K B vs ds → Rps K B (vs.set n v) (ds.set n d)
  | _, _, _, .nil => .nil
  | _, _, 0, .cons _ t => .cons q t
  | _, _, n + 1, .cons r t => .cons r (Rps.set q n t)
theorem Rps.rev {B : Hp} : ∀ {vs : List V} {ds : List D}, Rps K B vs ds → Rps K B vs.reverse ds.reverse
  | _, _, .nil => .nil
  | _, _, .cons r t => by
    rw [List.reverse_cons, List.reverse_cons]
    exact Rps.app (Rps.rev t) (.cons r .nil)

theorem Rp.cellOf {B : Hp} {a dx : Addr} {k : Kd} {vs : List V} {ds : List D} (c : Cell B a dx k vs) (rs : Rps K B vs ds) : Rp K B (.ref a) (.nd k ds) := by
  by_cases hk : k = .tup
  · subst hk
    exact .tup c.at_ c.sz rs
  · exact .cell hk c rs

mutual
inductive Tp (K : PySem.W.Frag) (H : Hp) (ow : Ow) (l : Lab) : V → T → (Addr → Prop) → Prop
  | fz {v : V} {d : D} : Rp K (Bs H ow) v d → Tp K H ow l v (.fz d) (fun _ => False)
  | ow {a dx : Addr} {k : Kd} {vs : List V} {ds : List D} : Cell H a dx k vs → (∀ b, Foot a dx k b → ow b = l) → Rps K (Bs H ow) vs ds → Tp K H ow l (.ref a) (.ow k ds) (Foot a dx k)
  | nd {a dx : Addr} {k : Kd} {vs : List V} {ts : List T} {S : Addr → Prop} : Cell H a dx k vs → (∀ b, Foot a dx k b → ow b = l ∧ ¬ S b) → Tps K H ow l vs ts S → Tp K H ow l (.ref a) (.nd k ts) (fun b => Foot a dx k b ∨ S b)
inductive Tps (K : PySem.W.Frag) (H : Hp) (ow : Ow) (l : Lab) : List V → List T → (Addr → Prop) → Prop
  | nil : Tps K H ow l [] [] (fun _ => False)
  | cons {v : V} {t : T} {vs : List V} {ts : List T} {S1 S2 : Addr → Prop} : Tp K H ow l v t S1 → Tps K H ow l vs ts S2 → (∀ b, S1 b → ¬ S2 b) → Tps K H ow l (v :: vs) (t :: ts) (fun b => S1 b ∨ S2 b)
end
def Tq (K : PySem.W.Frag) (H : Hp) (ow : Ow) (l : Lab) (v : V) (t : T) : Prop := ∃ S, Tp K H ow l v t S

theorem Cell.there {H : Hp} {a dx : Addr} {k : Kd} {vs : List V} (c : Cell H a dx k vs) {b : Addr} (f : Foot a dx k b) : ∃ o, H b = some o := by
  cases k with
  | ins C ks =>
    rcases f with rfl | rfl
    · exact ⟨_, c.at_⟩
    · exact ⟨_, c.fit.2.1⟩
  | _ =>
    have f' : b = a := f
    subst f'
    exact ⟨_, c.at_⟩
theorem Cell.at_same {H H' : Hp} {a dx : Addr} {k : Kd} {vs : List V} (c : Cell H a dx k vs) (e : ∀ b o, Foot a dx k b → H b = some o → H' b = some o) : Cell H' a dx k vs := by
  refine ⟨e a _ foot_a c.at_, c.sz, ?_⟩
  have f := c.fit
  cases k with
  | ins C ks => exact ⟨f.1, e _ _ (.inr rfl) f.2.1, f.2.2⟩
  | _ => exact f
mutual
theorem Tp.there {H : Hp} {ow : Ow} {l : Lab} : ∀ {v : V} {t : T} {S : Addr → Prop}, Tp K H ow l v t S → ∀ b, S b → ow b = l ∧ ∃ o, H b = some o
  | _, _, _, .fz _, _, h => h.elim
  | _, _, _, .ow c f r, b, h => ⟨f b h, c.there h⟩
  | _, _, _, .nd c f r, b, h => by
    rcases h with h | h
    · exact ⟨(f b h).1, c.there h⟩
    · exact Tps.there r b h
theorem Tps.there {H : Hp} {ow : Ow} {l : Lab} : ∀ {v : List V} {t : List T} {S : Addr → Prop}, Tps K H ow l v t S → ∀ b, S b → ow b = l ∧ ∃ o, H b = some o
  | _, _, _, .nil, _, h => h.elim
  | _, _, _, .cons r s _, b, h => by
    rcases h with h | h
    · exact Tp.there r b h
    · exact Tps.there s b h
end
structure Car (H H' : Hp) (ow ow' : Ow) (l l' : Lab) : Prop where
  bs : Same (Bs H ow) (Bs H' ow')
  own : ∀ a o, H a = some o → ow a = l → H' a = some o ∧ ow' a = l'
mutual
theorem Tp.car {H H' : Hp} {ow ow' : Ow} {l l' : Lab} : ∀ {v : V} {t : T} {S : Addr → Prop}, (Same (Bs H ow) (Bs H' ow')) → (∀ a o, S a → H a = some o → ow a = l → H' a = some o ∧ ow' a = l') → Tp K H ow l v t S → Tp K H' ow' l' v t S
  | _, _, _, e, _, .fz r => .fz (r.mono e)
  | _, _, _, e, k, .ow c f r => .ow (c.at_same fun b o fb q => (k b o fb q (f b fb)).1) (fun b fb => let ⟨o, q⟩ := c.there fb; (k b o fb q (f b fb)).2) (r.mono e)
  | _, _, _, e, k, .nd c f r => .nd (c.at_same fun b o fb q => (k b o (.inl fb) q (f b fb).1).1)
      (fun b fb => let ⟨o, q⟩ := c.there fb; ⟨(k b o (.inl fb) q (f b fb).1).2, (f b fb).2⟩) (Tps.car e (fun b o s => k b o (.inr s)) r)
theorem Tps.car {H H' : Hp} {ow ow' : Ow} {l l' : Lab} : ∀ {v : List V} {t : List T} {S : Addr → Prop}, (Same (Bs H ow) (Bs H' ow')) → (∀ a o, S a → H a = some o → ow a = l → H' a = some o ∧ ow' a = l') → Tps K H ow l v t S → Tps K H' ow' l' v t S
  | _, _, _, _, _, .nil => .nil
  | _, _, _, e, k, .cons r s d => .cons (Tp.car e (fun b o q => k b o (.inl q)) r) (Tps.car e (fun b o q => k b o (.inr q)) s) d
end
theorem Car.tp {H H' : Hp} {ow ow' : Ow} {l l' : Lab} (c : Car H H' ow ow' l l') {v : V} {t : T} {S : Addr → Prop} (h : Tp K H ow l v t S) : Tp K H' ow' l' v t S := h.car c.bs fun a o _ => c.own a o
theorem Car.tps {H H' : Hp} {ow ow' : Ow} {l l' : Lab} (c : Car H H' ow ow' l l') {v : List V} {t : List T} {S : Addr → Prop} (h : Tps K H ow l v t S) : Tps K H' ow' l' v t S := h.car c.bs fun a o _ => c.own a o
theorem Car.tq {H H' : Hp} {ow ow' : Ow} {l l' : Lab} (c : Car H H' ow ow' l l') {v : V} {t : T} (h : Tq K H ow l v t) : Tq K H' ow' l' v t := h.imp fun _ => c.tp

mutual
theorem Tp.all {H B : Hp} {ow : Ow} {l : Lab} : ∀ {v : V} {t : T} {S : Addr → Prop}, Same (Bs H ow) B → (∀ a o, S a → H a = some o → ow a = l → B a = some o) → Tp K H ow l v t S → Rp K B v t.d
  | _, .fz _, _, e, _, .fz r => r.mono e
  | _, .ow kd ds, _, e, k, .ow c f r => Rp.cellOf (c.at_same (H' := B) fun b o fb q => k b o fb q (f b fb)) (r.mono e)
  | _, .nd kd ts, _, e, k, .nd c f r => by
    have c' := c.at_same (H' := B) fun b o fb q => k b o (.inl fb) q (f b fb).1
    have rs := Tps.all e (fun b o s => k b o (.inr s)) r
    exact Rp.cellOf c' rs
theorem Tps.all {H B : Hp} {ow : Ow} {l : Lab} : ∀ {v : List V} {t : List T} {S : Addr → Prop}, Same (Bs H ow) B → (∀ a o, S a → H a = some o → ow a = l → B a = some o) → Tps K H ow l v t S → Rps K B v (Tsd t)
  | _, _, _, _, _, .nil => .nil
  | _, _, _, e, k, .cons r s _ => .cons (Tp.all e (fun b o q => k b o (.inl q)) r) (Tps.all e (fun b o q => k b o (.inr q)) s)
end
theorem bs_same (H : Hp) (ow : Ow) : Same (Bs H ow) H := fun _ _ e => (bs_some e).2
theorem Tq.rd {H : Hp} {ow : Ow} {l : Lab} {v : V} {t : T} (h : Tq K H ow l v t) : Rp K H v t.d :=
  let ⟨_, h⟩ := h; h.all (bs_same H ow) fun _ _ _ q _ => q
theorem Tps.len {H : Hp} {ow : Ow} {l : Lab} : ∀ {vs : List V} {ts : List T} {S : Addr → Prop}, Tps K H ow l vs ts S → vs.length = ts.length
  | _, _, _, .nil => rfl
  | _, _, _, .cons _ t _ => by rw [List.length_cons, List.length_cons, Tps.len t]
end
end QV

set_option Elab.async false
set_option linter.all false
set_option maxRecDepth 100000
set_option maxHeartbeats 2000000
namespace QV
open PySem L2

structure Rz where
  C : Addr
  ks : List Str
  ds : List D
abbrev XQ := Rz → Env → Prop
abbrev SemE := Env → (T → Env → Prop) → XQ → Prop
abbrev SemP := Env → (T → List Nat → Env → Prop) → XQ → Prop
abbrev SemT := Env → (Bool → Env → Prop) → XQ → Prop
abbrev SemA := Env → (List T → Env → Prop) → XQ → Prop

section
variable {K : PySem.W.Frag} {H H' H1 H2 : Hp} {ow ow' ow1 ow2 : Ow} {l l' : Lab} {v : V} {t : T} {M M' M1 M2 : List Nat} {n n' n1 n2 : Nat} {σ : L2.St} {env env' : Env} {p a : Addr} {o : HO}

structure StOk (K : PySem.W.Frag) (H : Hp) (ow : Ow) (σ : L2.St) (env : Env) : Prop where
  len : env.length = σ.length
  at_ : ∀ (i : Nat) (t : T), env[i]? = some (some t) → ∃ v, σ[i]? = some (some v) ∧ Tq K H ow (.sl i) v t
def Prot (M : List Nat) (n : Nat) : Lab → Prop
  | .fr => True
  | .base => True
  | .sl i => i ∉ M
  | .tm k => k < n
theorem Prot.mono (hM : ∀ i ∈ M', i ∈ M) (hn : n ≤ n') (h : Prot M n l) : Prot M' n' l := by
  cases l with
  | sl i => exact fun q => h (hM i q)
  | tm k => exact Nat.lt_of_lt_of_le h hn
  | _ => trivial
def Stp (M : List Nat) (n : Nat) (H : Hp) (ow : Ow) (H' : Hp) (ow' : Ow) : Prop := ∀ a o, H a = some o → Prot M n (ow a) → H' a = some o ∧ ow' a = ow a
structure Out (M : List Nat) (env env' : Env) : Prop where
  len : env'.length = env.length
  eq : ∀ i, i ∉ M → env'[i]? = env[i]?
theorem Stp.refl : Stp M n H ow H ow := fun _ _ h _ => ⟨h, rfl⟩
theorem Stp.trans (x : Stp M1 n1 H ow H1 ow1) (y : Stp M2 n2 H1 ow1 H2 ow2) (h1 : ∀ i ∈ M1, i ∈ M) (h2 : ∀ i ∈ M2, i ∈ M) (k1 : n ≤ n1) (k2 : n ≤ n2) : Stp M n H ow H2 ow2 := fun a o e q => by
  obtain ⟨e1, q1⟩ := x a o e (q.mono h1 k1)
  obtain ⟨e2, q2⟩ := y a o e1 (by rw [q1]; exact q.mono h2 k2)
  exact ⟨e2, q2.trans q1⟩
theorem Stp.mono (x : Stp M1 n1 H ow H1 ow1) (h1 : ∀ i ∈ M1, i ∈ M) (k1 : n ≤ n1) : Stp M n H ow H1 ow1 := fun a o e q => x a o e (q.mono h1 k1)
theorem Out.refl : Out M env env := ⟨rfl, fun _ _ => rfl⟩
theorem Out.trans {e1 e2 e3 : Env} (x : Out M1 e1 e2) (y : Out M2 e2 e3) (h1 : ∀ i ∈ M1, i ∈ M) (h2 : ∀ i ∈ M2, i ∈ M) : Out M e1 e3 := ⟨y.len.trans x.len, fun i hi => (y.eq i fun z => hi (h2 i z)).trans (x.eq i fun z => hi (h1 i z))⟩
theorem Out.mono {e1 e2 : Env} (x : Out M1 e1 e2) (h1 : ∀ i ∈ M1, i ∈ M) : Out M e1 e2 := ⟨x.len, fun i hi => x.eq i fun z => hi (h1 i z)⟩
theorem Out.set1 {i : Nat} {x : Option T} : Out [i] env (env.set i x) := ⟨List.length_set, fun j hj => List.getElem?_set_ne (fun z => hj (by simp [z]))⟩
theorem Stp.bs (x : Stp M n H ow H' ow') : Same (Bs H ow) (Bs H' ow') := fun a o e => by
  obtain ⟨e1, e2⟩ := bs_some e
  obtain ⟨h1, h2⟩ := x a o e2 (by rw [e1]; trivial)
  rw [bs_of (h2.trans e1)]
  exact h1
theorem Stp.car (x : Stp M n H ow H' ow') (h : Prot M n l) : Car H H' ow ow' l l := ⟨x.bs, fun a o e q => by
  obtain ⟨h1, h2⟩ := x a o e (by rw [q]; exact h)
  exact ⟨h1, h2.trans q⟩⟩
theorem StOk.stp (s : StOk K H ow σ env) (x : Stp M n H ow H' ow') (out : Out M env env') (k : ∀ i t, i ∈ M → env'[i]? = some (some t) → ∃ v, σ[i]? = some (some v) ∧ Tq K H' ow' (.sl i) v t) : StOk K H' ow' σ env' := ⟨out.len.trans s.len, fun i t e => by
  by_cases h : i ∈ M
  · exact k i t h e
  · rw [out.eq i h] at e
    obtain ⟨v, q, r⟩ := s.at_ i t e
    exact ⟨v, q, (x.car (l := .sl i) h).tq r⟩⟩
theorem StOk.stp0 (s : StOk K H ow σ env) (x : Stp [] n H ow H' ow') : StOk K H' ow' σ env := s.stp x Out.refl fun _ _ h => nomatch h

def Ow.put (ow : Ow) (p : Addr) (l : Lab) : Ow := fun b => if b = p then l else ow b
theorem put_same : Ow.put ow p l p = l := if_pos rfl
theorem put_ne {b : Addr} (h : b ≠ p) : Ow.put ow p l b = ow b := if_neg h
theorem Stp.new (h : H p = none) : Stp M n H ow (upd H p o) (Ow.put ow p l) := fun a u e _ => by
  have ne := ne_of_none e h
  exact ⟨by rw [upd_ne ne]; exact e, put_ne ne⟩
theorem Tq.newL {vs : List V} {ds : List D} (h : H p = none) (z : vs.length ≤ sizeLine) (r : Rps K (Bs H ow) vs ds) : Tq K (upd H p (.lst vs)) (Ow.put ow p l) l (.ref p) (.ow .lst ds) :=
  ⟨_, .ow (dx := p) ⟨upd_same, z, trivial⟩ (fun b fb => by
    have e : b = p := fb
    rw [e]; exact put_same) (r.mono (Stp.bs (M := []) (n := 0) (Stp.new h)))⟩
theorem Tq.newT {vs : List V} {ds : List D} (h : H p = none) (z : vs.length ≤ sizeLine) (r : Rps K (Bs H ow) vs ds) : Tq K (upd H p (.tup vs)) (Ow.put ow p l) l (.ref p) (.ow .tup ds) :=
  ⟨_, .ow (dx := p) ⟨upd_same, z, trivial⟩ (fun b fb => by
    have e : b = p := fb
    rw [e]; exact put_same) (r.mono (Stp.bs (M := []) (n := 0) (Stp.new h)))⟩
def Ow.mv (ow : Ow) (l l' : Lab) : Ow := fun b => if ow b = l then l' else ow b
theorem mv_eq {b : Addr} (h : ow b = l) : Ow.mv ow l l' b = l' := if_pos h
theorem mv_ne {b : Addr} (h : ow b ≠ l) : Ow.mv ow l l' b = ow b := if_neg h
theorem Stp.mv (h : ¬ Prot M n l) : Stp M n H ow H (Ow.mv ow l l') := fun a u e q => ⟨e, mv_ne fun z => h (z ▸ q)⟩
theorem bs_mv (h : l ≠ .base) : Same (Bs H ow) (Bs H (Ow.mv ow l l')) := fun a o e => by
  obtain ⟨e1, e2⟩ := bs_some e
  have q : Ow.mv ow l l' a = .base := by rw [mv_ne (by rw [e1]; exact fun z => h z.symm)]; exact e1
  rw [bs_of q]
  exact e2
theorem Tq.mv (h : l ≠ .base) (r : Tq K H ow l v t) : Tq K H (Ow.mv ow l l') l' v t := Car.tq ⟨bs_mv h, fun _ _ e q => ⟨e, mv_eq q⟩⟩ r
theorem Tq.frz (h : l ≠ .base) (r : Tq K H ow l v t) : Rp K (Bs H (Ow.mv ow l .base)) v t.d :=
  let ⟨_, r⟩ := r; r.all (bs_mv h) fun a o _ e q => by rw [bs_of (mv_eq q)]; exact e
theorem Tq.fz_ {d : D} : Tq K H ow l v (.fz d) ↔ Rp K (Bs H ow) v d := ⟨fun ⟨_, h⟩ => by cases h; assumption, fun h => ⟨_, .fz h⟩⟩
theorem not_tm : ¬ Prot M n (.tm n) := Nat.lt_irrefl n
theorem not_sl {i : Nat} (h : i ∈ M) : ¬ Prot M n (.sl i) := fun q => q h

theorem zip_inj {α β : Type} : ∀ {ks : List α} {vs ws : List β}, ks.length = vs.length → ks.length = ws.length → ks.zip vs = ks.zip ws → vs = ws
  | [], [], [], _, _, _ => rfl
  | k :: ks, v :: vs, w :: ws, h1, h2, h => by
    rw [List.zip_cons_cons, List.zip_cons_cons] at h
    obtain ⟨e1, e2⟩ := List.cons.inj h
    rw [(Prod.mk.inj e1).2, zip_inj (Nat.succ.inj h1) (Nat.succ.inj h2) e2]
theorem Cell.inj {dx dx' : Addr} {k : Kd} {vs ws : List V} (c : Cell H a dx k vs) (c' : Cell H a dx' k ws) : vs = ws := by
  have e := Option.some.inj (c.at_.symm.trans c'.at_)
  cases k with
  | lst => exact HO.lst.inj e
  | tup => exact HO.tup.inj e
  | dK ks => exact zip_inj c.fit c'.fit (HO.dK.inj e)
  | dT ks => exact zip_inj c.fit c'.fit (HO.dT.inj e)
  | ins C ks => exact zip_inj c.fit.1 c'.fit.1 (HO.ins.inj e).2.2
inductive Sub (K : PySem.W.Frag) (H : Hp) (ow : Ow) (l : Lab) : V → T → List Nat → V → T → Prop
  | nil {v : V} {t : T} : Sub K H ow l v t [] v t
  | cons {a dx : Addr} {k : Kd} {vs : List V} {ts : List T} {j : Nat} {p : List Nat} {v1 v : V} {t1 t : T} : Cell H a dx k vs → (∀ b, Foot a dx k b → ow b = l) → vs[j]? = some v1 → ts[j]? = some t1 → Sub K H ow l v1 t1 p v t → Sub K H ow l (.ref a) (.nd k ts) (j :: p) v t
theorem Tps.get : ∀ {vs : List V} {ts : List T} {S : Addr → Prop} {j : Nat} {v : V} {t : T}, Tps K H ow l vs ts S → vs[j]? = some v → ts[j]? = some t → ∃ S', Tp K H ow l v t S'
  | _, _, _, _, _, _, .nil, e, _ => by simp at e
  | _, _, _, 0, _, _, .cons r _ _, e, e' => by simp at e e'; subst e e'; exact ⟨_, r⟩
  | _, _, _, j + 1, v, t, .cons _ s _, e, e' => Tps.get (j := j) s (by simpa using e) (by simpa using e')
theorem Sub.tq {v0 v : V} {t0 t : T} {pt : List Nat} (s : Sub K H ow l v0 t0 pt v t) : Tq K H ow l v0 t0 → Tq K H ow l v t := by
  induction s with
  | nil => exact id
  | cons c f e1 e2 _ ih =>
    rintro ⟨S, r⟩
    cases r with
    | nd c' f' r' =>
      have e := c'.inj c
      subst e
      obtain ⟨S', r1⟩ := r'.get e1 e2
      exact ih ⟨S', r1⟩
theorem Sub.car {v0 v : V} {t0 t : T} {pt : List Nat} (c : Car H H' ow ow' l l') (s : Sub K H ow l v0 t0 pt v t) : Sub K H' ow' l' v0 t0 pt v t := by
  induction s with
  | nil => exact .nil
  | cons q f e1 e2 _ ih => exact .cons (q.at_same fun b o fb e => (c.own b o e (f b fb)).1) (fun b fb => let ⟨o, e⟩ := q.there fb; (c.own b o e (f b fb)).2) e1 e2 ih
def Plc (K : PySem.W.Frag) (H : Hp) (ow : Ow) (σ : L2.St) (env : Env) (n : Nat) (root : Option Nat) (v : V) (t : T) (pt : List Nat) : Prop :=
  (∃ d, t = .fz d ∧ Rp K (Bs H ow) v d) ∨ (root = none ∧ Tq K H ow (.tm n) v t) ∨
    ∃ i v0 t0, root = some i ∧ σ[i]? = some (some v0) ∧ env[i]? = some (some t0) ∧ Sub K H ow (.sl i) v0 t0 pt v t
def Ro (K : PySem.W.Frag) (H : Hp) (ow : Ow) (v : V) (t : T) : Prop := ∃ l, Tq K H ow l v t
theorem Plc.ro {root : Option Nat} {pt : List Nat} (s : StOk K H ow σ env) (h : Plc K H ow σ env n root v t pt) : Ro K H ow v t := by
  rcases h with ⟨d, rfl, r⟩ | ⟨_, r⟩ | ⟨i, v0, t0, _, e1, e2, r⟩
  · exact ⟨.fr, Tq.fz_.mpr r⟩
  · exact ⟨_, r⟩
  · obtain ⟨w, e3, q⟩ := s.at_ i t0 e2
    rw [e1] at e3
    cases e3
    exact ⟨_, r.tq q⟩
def okR (r : Option Nat) (M : List Nat) : Bool := match r with
  | none => true
  | some i => decide (i ∉ M)
theorem Plc.stp {root : Option Nat} {pt : List Nat} (h : Plc K H ow σ env n root v t pt) (x : Stp M n' H ow H' ow') (out : Out M env env') (hr : okR root M = true) (hn : n < n') : Plc K H' ow' σ env' n root v t pt := by
  rcases h with ⟨d, rfl, r⟩ | ⟨e, r⟩ | ⟨i, v0, t0, rfl, e1, e2, r⟩
  · exact .inl ⟨d, rfl, r.mono x.bs⟩
  · exact .inr (.inl ⟨e, (x.car (l := .tm n) hn).tq r⟩)
  · have hi : i ∉ M := of_decide_eq_true hr
    exact .inr (.inr ⟨i, v0, t0, rfl, e1, (out.eq i hi).trans e2, r.car (x.car (l := .sl i) hi)⟩)
theorem Ro.rd (h : Ro K H ow v t) : Rp K H v t.d := let ⟨_, h⟩ := h; h.rd

def Rzp (K : PySem.W.Frag) (H : Hp) (ow : Ow) (d : Option Addr) (r : Rz) : Prop := match d with
  | some d => ∃ vs, Bs H ow d = some (.xd (r.ks.zip vs)) ∧ r.ks.length = vs.length ∧ Rps K (Bs H ow) vs r.ds
  | none => r.ks = [] ∧ r.ds = []
def Xk (K : PySem.W.Frag) (W : WX) (M : List Nat) (σ : L2.St) (H : Hp) (n : Nat) (ow : Ow) (env : Env) (E : XQ) : Prop :=
  ∀ (r : Rz) (d : Option Addr) (H' : Hp) (ow' : Ow) (env' : Env), Stp M n H ow H' ow' → StOk K H' ow' σ env' → Out M env env' → Rzp K H' ow' d r → E r env' → W (.ref r.C) d σ H'
def tP (K : PySem.W.Frag) (W : WX) (M : List Nat) (root : Option Nat) (q : SemP) : TE := fun σ H Qv => ∃ (n : Nat) (ow : Ow) (env : Env) (Q : T → List Nat → Env → Prop) (E : XQ), StOk K H ow σ env ∧ q env Q E ∧
  (∀ (v : V) (t : T) (pt : List Nat) (H' : Hp) (ow' : Ow) (env' : Env), Stp M n H ow H' ow' → StOk K H' ow' σ env' → Out M env env' → Plc K H' ow' σ env' n root v t pt → Q t pt env' → Qv v H') ∧ Xk K W M σ H n ow env E
def tQ (K : PySem.W.Frag) (W : WX) (M : List Nat) (q : SemE) : TE := fun σ H Qv => ∃ (n : Nat) (ow : Ow) (env : Env) (Q : T → Env → Prop) (E : XQ), StOk K H ow σ env ∧ q env Q E ∧
  (∀ (v : V) (t : T) (H' : Hp) (ow' : Ow) (env' : Env), Stp M n H ow H' ow' → StOk K H' ow' σ env' → Out M env env' → Tq K H' ow' (.tm n) v t → Q t env' → Qv v H') ∧ Xk K W M σ H n ow env E
def tT (K : PySem.W.Frag) (W : WX) (M : List Nat) (q : SemT) : TT := fun σ H Qv => ∃ (n : Nat) (ow : Ow) (env : Env) (Q : Bool → Env → Prop) (E : XQ), StOk K H ow σ env ∧ q env Q E ∧
  (∀ (b : Bool) (H' : Hp) (ow' : Ow) (env' : Env), Stp M n H ow H' ow' → StOk K H' ow' σ env' → Out M env env' → Q b env' → Qv b H') ∧ Xk K W M σ H n ow env E
theorem Xk.step {W : WX} {E : XQ} (k : Xk K W M σ H n ow env E) (x : Stp M1 n1 H ow H1 ow1) {env1 : Env} (out : Out M1 env env1) (h1 : ∀ i ∈ M1, i ∈ M) (h2 : ∀ i ∈ M2, i ∈ M) (k1 : n ≤ n1) (k2 : n ≤ n2) : Xk K W M2 σ H1 n2 ow1 env1 E :=
  fun r d H' ow' env' y s o2 z e => k r d H' ow' env' (x.trans y h1 h2 k1 k2) s (out.trans o2 h1 h2) z e
end

structure QP (X : Cx) (W : WX) (M : List Nat) (root : Option Nat) (e : Expr) (q : SemP) : Prop where
  run : PE X e (tP X.K W M root q)
structure QE (X : Cx) (W : WX) (M : List Nat) (e : Expr) (q : SemE) : Prop where
  run : PE X e (tQ X.K W M q)
structure QT (X : Cx) (W : WX) (M : List Nat) (e : Expr) (q : SemT) : Prop where
  run : PT X e (tT X.K W M q)
theorem PE_imp {X : Cx} {e : Expr} {t t' : TE} (h : PE X e t) (f : ∀ σ H Q, t' σ H Q → t σ H Q) : PE X e t' := ⟨fun pins s σ H Q I q => h.run pins s σ H Q I (f _ _ _ q)⟩
theorem PT_imp {X : Cx} {e : Expr} {t t' : TT} (h : PT X e t) (f : ∀ σ H Q, t' σ H Q → t σ H Q) : PT X e t' := ⟨fun pins s σ H Q I q => h.run pins s σ H Q I (f _ _ _ q)⟩
section
variable {X : Cx} {W : WX} {M M' Ma Mb : List Nat} {e a b : Expr} {q qa qb : SemE} {pa pb : SemP} {ra rb root : Option Nat} {pos : Pos}
theorem nilsub {M : List Nat} : ∀ i ∈ ([] : List Nat), i ∈ M := fun _ h => nomatch h
theorem subl {Ma Mb : List Nat} : ∀ i ∈ Ma, i ∈ Ma ++ Mb := fun _ h => List.mem_append_left _ h
theorem subr {Ma Mb : List Nat} : ∀ i ∈ Mb, i ∈ Ma ++ Mb := fun _ h => List.mem_append_right _ h
theorem QE.more (h : QE X W M e q) (hs : ∀ i ∈ M, i ∈ M') : QE X W M' e q := ⟨PE_imp h.run fun σ H Qv ⟨n, ow, env, Q, E, s, hq, k, x⟩ =>
  ⟨n, ow, env, Q, E, s, hq, fun v t H' ow' env' y s' o r z => k v t H' ow' env' (y.mono hs (Nat.le_refl _)) s' (o.mono hs) r z, fun r d H' ow' env' y s' o => x r d H' ow' env' (y.mono hs (Nat.le_refl _)) s' (o.mono hs)⟩⟩
theorem QT.more {q : SemT} (h : QT X W M e q) (hs : ∀ i ∈ M, i ∈ M') : QT X W M' e q := ⟨PT_imp h.run fun σ H Qv ⟨n, ow, env, Q, E, s, hq, k, x⟩ =>
  ⟨n, ow, env, Q, E, s, hq, fun v H' ow' env' y s' o z => k v H' ow' env' (y.mono hs (Nat.le_refl _)) s' (o.mono hs) z, fun r d H' ow' env' y s' o => x r d H' ow' env' (y.mono hs (Nat.le_refl _)) s' (o.mono hs)⟩⟩
def sPE (q : SemE) : SemP := fun env Q E => q env (fun t env' => Q t [] env') E
theorem QE.p (h : QE X W M e q) : QP X W M none e (sPE q) := ⟨PE_imp h.run fun σ H Qv ⟨n, ow, env, Q, E, s, hq, k, x⟩ =>
  ⟨n, ow, env, fun t env' => Q t [] env', E, s, hq, fun v t H' ow' env' y s' o r z => k v t [] H' ow' env' y s' o (.inr (.inl ⟨rfl, r⟩)) z, x⟩⟩
def sFz (q : SemE) : SemE := fun env Q E => q env (fun t env' => Q (.fz t.d) env') E
theorem QE.fz (h : QE X W M e q) : QE X W M e (sFz q) := ⟨PE_imp h.run fun σ H Qv ⟨n, ow, env, Q, E, s, hq, k, x⟩ =>
  ⟨n, ow, env, fun t env' => Q (.fz t.d) env', E, s, hq, fun v t H' ow' env' y s' o r z => by
    have y2 : Stp [] n H' ow' H' (Ow.mv ow' (.tm n) .base) := Stp.mv not_tm
    exact k v (.fz t.d) H' _ env' (y.trans y2 (fun _ h => h) nilsub (Nat.le_refl _) (Nat.le_refl _)) (s'.stp0 y2) o (Tq.fz_.mpr (r.frz (fun z => nomatch z))) z, x⟩⟩
def sEP (q : SemP) : SemE := fun env Q E => q env (fun t _ env' => match t with | .fz d => Q (.fz d) env' | _ => False) E
theorem QP.val (h : QP X W M root e pa) : QE X W M e (sEP pa) := ⟨PE_imp h.run fun σ H Qv ⟨n, ow, env, Q, E, s, hq, k, x⟩ =>
  ⟨n, ow, env, _, E, s, hq, fun v t pt H' ow' env' y s' o r z => by
    cases t with
    | fz d =>
      obtain ⟨l, r'⟩ := r.ro s'
      exact k v (.fz d) H' ow' env' y s' o (Tq.fz_.mpr (Tq.fz_.mp r')) z
    | ow _ _ => exact z.elim
    | nd _ _ => exact z.elim, x⟩⟩

def sNm (i : Nat) : SemP := fun env Q _ => match env[i]? with
  | some (some t) => Q t [] env
  | _ => False
theorem p_nm (i : Nat) {x : Str} (hN : X.N[i]? = some x := by rfl) (hv : Vis X.env.scope x := by first | exact Or.inl rfl | exact Or.inr (Or.inl rfl) | exact Or.inr (Or.inr rfl)) (hd : (x == ("__debug__" : Str)) = false := by decide)
    (hcd : (x == ("__classdict__" : Str)) = false := by decide) : QP X W [] (some i) (.Name x pos) (sNm i) := ⟨PE_imp (pe_var (i := i) hN hv hd hcd) fun σ H Qv ⟨n, ow, env, Q, E, s, hq, k, _⟩ => by
  unfold sNm at hq
  split at hq
  · rename_i t e
    obtain ⟨v, e1, r⟩ := s.at_ i t e
    exact ⟨v, e1, k v t [] H ow env Stp.refl s Out.refl (.inr (.inr ⟨i, v, t, rfl, e1, e, .nil⟩)) hq⟩
  · exact hq.elim⟩
def sC (d : D) : SemE := fun env Q _ => Q (.fz d) env
theorem q_const {v : V} {d : D} (h : PE X e (tC v)) (r : ∀ B, Rp X.K B v d) : QE X W [] e (sC d) := ⟨PE_imp h fun σ H Qv ⟨n, ow, env, Q, E, s, hq, k, _⟩ =>
  k v (.fz d) H ow env Stp.refl s Out.refl (Tq.fz_.mpr (r _)) hq⟩
theorem q_int {i : Int} {j} : QE X W [] (.Constant (.int i) j pos) (sC (.int i)) := q_const pe_int fun _ => .int i
theorem q_bl {i : Bool} {j} : QE X W [] (.Constant (.bool i) j pos) (sC (.bl i)) := q_const pe_bl fun _ => .bl i
theorem q_non {j} : QE X W [] (.Constant .none j pos) (sC .non) := q_const pe_non fun _ => .non
theorem q_str {x : Str} {j} : QE X W [] (.Constant (.str x) j pos) (sC (.str x)) := q_const pe_str fun _ => .str x
def sFzN (i : Nat) : SemE := fun env Q _ => match env[i]? with
  | some (some t) => Q (.fz t.d) (env.set i (some (.fz t.d)))
  | _ => False
theorem q_fzn (i : Nat) {x : Str} (hN : X.N[i]? = some x := by rfl) (hv : Vis X.env.scope x := by first | exact Or.inl rfl | exact Or.inr (Or.inl rfl) | exact Or.inr (Or.inr rfl)) (hd : (x == ("__debug__" : Str)) = false := by decide)
    (hcd : (x == ("__classdict__" : Str)) = false := by decide) : QE X W [i] (.Name x pos) (sFzN i) := ⟨PE_imp (pe_var (i := i) hN hv hd hcd) fun σ H Qv ⟨n, ow, env, Q, E, s, hq, k, _⟩ => by
  unfold sFzN at hq
  split at hq
  · rename_i t e
    obtain ⟨v, e1, r⟩ := s.at_ i t e
    have y : Stp [i] n H ow H (Ow.mv ow (.sl i) .base) := Stp.mv (not_sl (by simp))
    have fr := r.frz (by exact fun z => nomatch z)
    have hi : i < env.length := (List.getElem?_eq_some_iff.mp e).1
    refine ⟨v, e1, k v (.fz t.d) H _ _ y (s.stp y (Out.set1) fun j u hj e' => ?_) Out.set1 (Tq.fz_.mpr fr) hq⟩
    have ej : j = i := by simpa using hj
    subst ej
    rw [List.getElem?_set_self hi] at e'
    cases e'
    exact ⟨v, e1, Tq.fz_.mpr fr⟩
  · exact hq.elim⟩
def sMvN (i : Nat) : SemE := fun env Q _ => match env[i]? with
  | some (some t) => Q t (env.set i none)
  | _ => False
theorem q_mvn (i : Nat) {x : Str} (hN : X.N[i]? = some x := by rfl) (hv : Vis X.env.scope x := by first | exact Or.inl rfl | exact Or.inr (Or.inl rfl) | exact Or.inr (Or.inr rfl)) (hd : (x == ("__debug__" : Str)) = false := by decide)
    (hcd : (x == ("__classdict__" : Str)) = false := by decide) : QE X W [i] (.Name x pos) (sMvN i) := ⟨PE_imp (pe_var (i := i) hN hv hd hcd) fun σ H Qv ⟨n, ow, env, Q, E, s, hq, k, _⟩ => by
  unfold sMvN at hq
  split at hq
  · rename_i t e
    obtain ⟨v, e1, r⟩ := s.at_ i t e
    have y : Stp [i] n H ow H (Ow.mv ow (.sl i) (.tm n)) := Stp.mv (not_sl (by simp))
    have hi : i < env.length := (List.getElem?_eq_some_iff.mp e).1
    refine ⟨v, e1, k v t H _ _ y (s.stp y (Out.set1) fun j u hj e' => ?_) Out.set1 (r.mv (fun z => nomatch z)) hq⟩
    have ej : j = i := by simpa using hj
    subst ej
    rw [List.getElem?_set_self hi] at e'
    cases e'
  · exact hq.elim⟩

theorem two {K : PySem.W.Frag} {σ : L2.St} {H : Hp} {n : Nat} {ow : Ow} {env : Env} {R : T → T → Env → Prop} {E : XQ} {Qv : V → V → Hp → Prop} (hr : okR ra Mb = true) (s : StOk K H ow σ env) (hq : pa env (fun t _ env1 => pb env1 (fun u _ env2 => R t u env2) E) E)
    (k : ∀ x y t u H' ow' env', Stp (Ma ++ Mb) n H ow H' ow' → StOk K H' ow' σ env' → Out (Ma ++ Mb) env env' → Ro K H' ow' x t → Ro K H' ow' y u → R t u env' → Qv x y H') (x : Xk K W (Ma ++ Mb) σ H n ow env E) :
    tP K W Ma ra pa σ H fun x H1 => tP K W Mb rb pb σ H1 fun y H2 => Qv x y H2 := by
  refine ⟨n, ow, env, _, E, s, hq, fun v t pt H1 ow1 env1 y1 s1 o1 r1 q1 => ?_, fun r d H' ow' env' y s' o => x r d H' ow' env' (y.mono subl (Nat.le_refl _)) s' (o.mono subl)⟩
  refine ⟨n + 1, ow1, env1, _, E, s1, q1, fun w u pu H2 ow2 env2 y2 s2 o2 r2 q2 => ?_, x.step y1 o1 subl subr (Nat.le_refl _) (Nat.le_succ _)⟩
  exact k v w t u H2 ow2 env2 (y1.trans y2 subl subr (Nat.le_refl _) (Nat.le_succ _)) s2 (o1.trans o2 subl subr) ((r1.stp y2 o2 hr (Nat.lt_succ_self _)).ro s2) (r2.ro s2) q2
end
def Op2 (K : PySem.W.Frag) (r : R2) (g : T → T → (T → Prop) → Prop) : Prop := ∀ (H : Hp) (ow : Ow) (n : Nat) (x y : V) (t u : T) (Q : T → Prop) (Qv : VK), Ro K H ow x t → Ro K H ow y u → g t u Q →
  (∀ v w H' ow', Stp [] n H ow H' ow' → Tq K H' ow' (.tm n) v w → Q w → Qv v H') → r x y H Qv
def Op1 (K : PySem.W.Frag) (r : V → Hp → VK → Prop) (g : T → (T → Prop) → Prop) : Prop := ∀ (H : Hp) (ow : Ow) (n : Nat) (x : V) (t : T) (Q : T → Prop) (Qv : VK), Ro K H ow x t → g t Q →
  (∀ v w H' ow', Stp [] n H ow H' ow' → Tq K H' ow' (.tm n) v w → Q w → Qv v H') → r x H Qv
def s2 (pa pb : SemP) (g : T → T → (T → Prop) → Prop) : SemE := fun env Q E => pa env (fun t _ env1 => pb env1 (fun u _ env2 => g t u fun w => Q w env2) E) E
def s1 (pa : SemP) (g : T → (T → Prop) → Prop) : SemE := fun env Q E => pa env (fun t _ env1 => g t fun w => Q w env1) E
section
variable {X : Cx} {W : WX} {M Ma Mb : List Nat} {e a b : Expr} {pa pb : SemP} {ra rb root : Option Nat} {pos : Pos}
theorem op2_run {K : PySem.W.Frag} {r : R2} {g : T → T → (T → Prop) → Prop} (hg : Op2 K r g) (hr : okR ra Mb = true) {σ : L2.St} {H : Hp} {Qv : VK} (h : tQ K W (Ma ++ Mb) (s2 pa pb g) σ H Qv) : tOp r (tP K W Ma ra pa) (tP K W Mb rb pb) σ H Qv := by
  obtain ⟨n, ow, env, Q, E, s, hq, k, x⟩ := h
  refine two (R := fun t u env2 => g t u fun w => Q w env2) (E := E) (Qv := fun x y H2 => r x y H2 Qv) hr s hq (fun x' y t u H' ow' env' y1 s' o r1 r2 q => ?_) x
  refine hg H' ow' n x' y t u _ Qv r1 r2 q fun v w H2 ow2 y2 r3 q3 => ?_
  exact k v w H2 ow2 env' (y1.trans y2 (fun _ h => h) nilsub (Nat.le_refl _) (Nat.le_refl _)) (s'.stp0 y2) o r3 q3
theorem q_op {op : Operator} {r : R2} {g : T → T → (T → Prop) → Prop} (ho : OpR X (binaryOp op) r) (hg : Op2 X.K r g) (ha : QP X W Ma ra a pa) (hb : QP X W Mb rb b pb) (hr : okR ra Mb = true := by decide) : QE X W (Ma ++ Mb) (.BinOp a op b pos) (s2 pa pb g) :=
  ⟨PE_imp (pe_op ho ha.run hb.run) fun _ _ _ h => op2_run hg hr h⟩
theorem q_cmp {op : CmpOp} {r : R2} {g : T → T → (T → Prop) → Prop} (ho : OpR X (compareOp op) r) (hg : Op2 X.K r g) (ha : QP X W Ma ra a pa) (hb : QP X W Mb rb b pb) (hm : behindInMarks op b = false) (hr : okR ra Mb = true := by decide) : QE X W (Ma ++ Mb) (.Compare a [op] [b] pos) (s2 pa pb g) :=
  ⟨PE_imp (pe_cmpR ho ha.run hb.run hm) fun _ _ _ h => op2_run hg hr h⟩
theorem q_ixR {r : R2} {g : T → T → (T → Prop) → Prop} (ho : IxR X r) (hg : Op2 X.K r g) (ha : QP X W Ma ra a pa) (hb : QP X W Mb rb b pb) (hs : PlainIx b) (hr : okR ra Mb = true := by decide) : QE X W (Ma ++ Mb) (.Subscript a b pos) (s2 pa pb g) :=
  ⟨PE_imp (pe_ix ho ha.run hb.run hs) fun _ _ _ h => op2_run hg hr h⟩
theorem q_un {op : UnaryOp} {r : V → Hp → VK → Prop} {g : T → (T → Prop) → Prop} (ho : UnR X (unaryOp op) r) (hg : Op1 X.K r g) (ha : QP X W M root a pa) : QE X W M (.UnaryOp op a pos) (s1 pa g) :=
  ⟨PE_imp (pe_un ho ha.run) fun σ H Qv ⟨n, ow, env, Q, E, s, hq, k, x⟩ => ⟨n, ow, env, _, E, s, hq, fun v t pt H' ow' env' y1 s' o r q => hg H' ow' n v t _ Qv (r.ro s') q fun v' w H2 ow2 y2 r3 q3 =>
    k v' w H2 ow2 env' (y1.trans y2 (fun _ h => h) nilsub (Nat.le_refl _) (Nat.le_refl _)) (s'.stp0 y2) o r3 q3, x⟩⟩
end
end QV

set_option Elab.async false
set_option linter.all false
set_option maxRecDepth 100000
set_option maxHeartbeats 2000000
namespace QV
open PySem L2

mutual
def D.py : D → PyData
  | .non => .none
  | .bl b => .bool b
  | .int i => .int i
  | .str x => .str x
  | .nd .lst ds => .list (Dspy ds)
  | .nd .tup ds => .tuple (Dspy ds)
  | _ => .none
def Dspy : List D → List PyData
  | [] => []
  | d :: ds => D.py d :: Dspy ds
end
mutual
def D.pl : Nat → D → Bool
  | _, .non => true
  | _, .bl _ => true
  | _, .int _ => true
  | _, .str x => PyData.strOk x
  | 0, .nd _ _ => false
  | n + 1, .nd .lst ds => Dspl n ds
  | n + 1, .nd .tup ds => Dspl n ds
  | _, _ => false
def Dspl : Nat → List D → Bool
  | _, [] => true
  | n, d :: ds => D.pl n d && Dspl n ds
end
mutual
def eqD : D → D → Bool
  | .non, .non => true
  | .bl a, .bl b => decide (a = b)
  | .bl a, .int j => decide ((if a then 1 else 0) = j)
  | .int i, .bl b => decide (i = if b then 1 else 0)
  | .int i, .int j => decide (i = j)
  | .str x, .str y => decide (x = y)
  | .nd .lst xs, .nd .lst ys => eqDs xs ys
  | .nd .tup xs, .nd .tup ys => eqDs xs ys
  | _, _ => false
def eqDs : List D → List D → Bool
  | [], [] => true
  | x :: xs, y :: ys => eqD x y && eqDs xs ys
  | _, _ => false
end
mutual
theorem D.pl_lay : ∀ {n : Nat} (d : D), d.pl n = true → d.py.canLay0 = true ∧ d.py.depth ≤ n
  | n, .non, _ => ⟨rfl, by simp [D.py, PyData.depth]⟩
  | n, .bl b, _ => ⟨rfl, by simp [D.py, PyData.depth]⟩
  | n, .int i, _ => ⟨rfl, by simp [D.py, PyData.depth]⟩
  | n, .str x, h => ⟨by simpa [D.py, PyData.canLay0, D.pl] using h, by simp [D.py, PyData.depth]⟩
  | 0, .scr _, h => by simp [D.pl] at h
  | n + 1, .scr _, h => by simp [D.pl] at h
  | 0, .nd _ _, h => by simp [D.pl] at h
  | n + 1, .nd .lst ds, h => by
    have q := Dspl_lay (n := n) ds (by simpa [D.pl] using h)
    exact ⟨by simpa [D.py, PyData.canLay0] using q.1, by simpa [D.py, PyData.depth] using q.2⟩
  | n + 1, .nd .tup ds, h => by
    have q := Dspl_lay (n := n) ds (by simpa [D.pl] using h)
    exact ⟨by simpa [D.py, PyData.canLay0] using q.1, by simpa [D.py, PyData.depth] using q.2⟩
  | n + 1, .nd (.dK _) _, h => by simp [D.pl] at h
  | n + 1, .nd (.dT _) _, h => by simp [D.pl] at h
  | n + 1, .nd (.ins _ _) _, h => by simp [D.pl] at h
theorem Dspl_lay : ∀ {n : Nat} (ds : List D), Dspl n ds = true → PyData.canLayAll0 (Dspy ds) = true ∧ PyData.depthAll (Dspy ds) ≤ n
  | n, [], _ => ⟨by simp [Dspy, PyData.canLayAll0], by simp [Dspy, PyData.depthAll]⟩
  | n, d :: ds, h => by
    have h' : D.pl n d = true ∧ Dspl n ds = true := by simpa [Dspl] using h
    have q1 := D.pl_lay d h'.1
    have q2 := Dspl_lay ds h'.2
    refine ⟨by simp [Dspy, PyData.canLayAll0, q1.1, q2.1], ?_⟩
    have := q1.2
    have := q2.2
    simp only [Dspy, PyData.depthAll]
    omega
end
theorem D.pl_shaped {n : Nat} {d : D} (h : d.pl n = true) (hn : n ≤ 64) : SeqAt.shaped d.py = true := by
  have q := D.pl_lay d h
  unfold SeqAt.shaped
  rw [q.1, decide_eq_true (Nat.le_trans q.2 hn)]
  rfl
mutual
theorem eqD_py : ∀ {n m : Nat} (d e : D), d.pl n = true → e.pl m = true → eqD d e = PyData.eqv d.py e.py
  | n, m, .non, .non, _, _ => by simp [eqD, D.py, PyData.eqv]
  | n, m, .non, .bl _, _, _ => by simp [eqD, D.py, PyData.eqv]
  | n, m, .non, .int _, _, _ => by simp [eqD, D.py, PyData.eqv]
  | n, m, .non, .str _, _, _ => by simp [eqD, D.py, PyData.eqv]
  | n, m, .bl _, .non, _, _ => by simp [eqD, D.py, PyData.eqv]
  | n, m, .bl a, .bl b, _, _ => by simp only [eqD, D.py, PyData.eqv]; cases a <;> cases b <;> rfl
  | n, m, .bl a, .int j, _, _ => by simp only [eqD, D.py, PyData.eqv]; rw [Bool.beq_eq_decide_eq]
  | n, m, .bl _, .str _, _, _ => by simp [eqD, D.py, PyData.eqv]
  | n, m, .int _, .non, _, _ => by simp [eqD, D.py, PyData.eqv]
  | n, m, .int i, .bl b, _, _ => by simp only [eqD, D.py, PyData.eqv]; rw [Bool.beq_eq_decide_eq]
  | n, m, .int i, .int j, _, _ => by simp only [eqD, D.py, PyData.eqv]; rw [Bool.beq_eq_decide_eq]
  | n, m, .int _, .str _, _, _ => by simp [eqD, D.py, PyData.eqv]
  | n, m, .str _, .non, _, _ => by simp [eqD, D.py, PyData.eqv]
  | n, m, .str _, .bl _, _, _ => by simp [eqD, D.py, PyData.eqv]
  | n, m, .str _, .int _, _, _ => by simp [eqD, D.py, PyData.eqv]
  | n, m, .str x, .str y, _, _ => by simp only [eqD, D.py, PyData.eqv]; rw [Bool.beq_eq_decide_eq]
  | n + 1, m + 1, .nd .lst xs, .nd .lst ys, h, k => by simpa [eqD, D.py, PyData.eqv] using eqDs_py xs ys (by simpa [D.pl] using h) (by simpa [D.pl] using k)
  | n + 1, m + 1, .nd .tup xs, .nd .tup ys, h, k => by simpa [eqD, D.py, PyData.eqv] using eqDs_py xs ys (by simpa [D.pl] using h) (by simpa [D.pl] using k)
  | n + 1, m + 1, .nd .lst xs, .nd .tup ys, _, _ => by simp [eqD, D.py, PyData.eqv]
  | n + 1, m + 1, .nd .tup xs, .nd .lst ys, _, _ => by simp [eqD, D.py, PyData.eqv]
  | n, m, .scr _, _, h, _ => by cases n <;> simp [D.pl] at h
  | n, m, _, .scr _, _, h => by cases m <;> simp [D.pl] at h
  | 0, m, .nd _ _, _, h, _ => by simp [D.pl] at h
  | n, 0, _, .nd _ _, _, h => by simp [D.pl] at h
  | n + 1, m, .nd (.dK _) _, _, h, _ => by simp [D.pl] at h
  | n + 1, m, .nd (.dT _) _, _, h, _ => by simp [D.pl] at h
  | n + 1, m, .nd (.ins _ _) _, _, h, _ => by simp [D.pl] at h
  | n, m + 1, _, .nd (.dK _) _, _, h => by simp [D.pl] at h
  | n, m + 1, _, .nd (.dT _) _, _, h => by simp [D.pl] at h
  | n, m + 1, _, .nd (.ins _ _) _, _, h => by simp [D.pl] at h
  | n + 1, m, .nd .lst _, .non, _, _ => by simp [eqD, D.py, PyData.eqv]
  | n + 1, m, .nd .lst _, .bl _, _, _ => by simp [eqD, D.py, PyData.eqv]
  | n + 1, m, .nd .lst _, .int _, _, _ => by simp [eqD, D.py, PyData.eqv]
  | n + 1, m, .nd .lst _, .str _, _, _ => by simp [eqD, D.py, PyData.eqv]
  | n + 1, m, .nd .tup _, .non, _, _ => by simp [eqD, D.py, PyData.eqv]
  | n + 1, m, .nd .tup _, .bl _, _, _ => by simp [eqD, D.py, PyData.eqv]
  | n + 1, m, .nd .tup _, .int _, _, _ => by simp [eqD, D.py, PyData.eqv]
  | n + 1, m, .nd .tup _, .str _, _, _ => by simp [eqD, D.py, PyData.eqv]
  | n, m + 1, .non, .nd .lst _, _, _ => by simp [eqD, D.py, PyData.eqv]
  | n, m + 1, .bl _, .nd .lst _, _, _ => by simp [eqD, D.py, PyData.eqv]
  | n, m + 1, .int _, .nd .lst _, _, _ => by simp [eqD, D.py, PyData.eqv]
  | n, m + 1, .str _, .nd .lst _, _, _ => by simp [eqD, D.py, PyData.eqv]
  | n, m + 1, .non, .nd .tup _, _, _ => by simp [eqD, D.py, PyData.eqv]
  | n, m + 1, .bl _, .nd .tup _, _, _ => by simp [eqD, D.py, PyData.eqv]
  | n, m + 1, .int _, .nd .tup _, _, _ => by simp [eqD, D.py, PyData.eqv]
  | n, m + 1, .str _, .nd .tup _, _, _ => by simp [eqD, D.py, PyData.eqv]
theorem eqDs_py : ∀ {n m : Nat} (ds es : List D), Dspl n ds = true → Dspl m es = true → eqDs ds es = PyData.eqvAll (Dspy ds) (Dspy es)
  | n, m, [], [], _, _ => by simp [eqDs, Dspy, PyData.eqvAll]
  | n, m, [], _ :: _, _, _ => by simp [eqDs, Dspy, PyData.eqvAll]
  | n, m, _ :: _, [], _, _ => by simp [eqDs, Dspy, PyData.eqvAll]
  | n, m, d :: ds, e :: es, h, k => by
    have h' : D.pl n d = true ∧ Dspl n ds = true := by simpa [Dspl] using h
    have k' : D.pl m e = true ∧ Dspl m es = true := by simpa [Dspl] using k
    simp only [eqDs, Dspy, PyData.eqvAll, eqD_py d e h'.1 k'.1, eqDs_py ds es h'.2 k'.2]
end
section
variable {K : PySem.W.Frag} {H : Hp} {ow : Ow} {B : Hp}
mutual
theorem Rp.dp : ∀ {n : Nat} {v : V} (d : D), Rp K B v d → d.pl n = true → Dp K B v d.py
  | n, _, .non, h, _ => by cases h; exact .non
  | n, _, .bl b, h, _ => by cases h; exact .bl b
  | n, _, .int b, h, _ => by cases h; exact .int b
  | n, _, .str b, h, _ => by cases h; exact .str b
  | 0, _, .scr _, _, h => by simp [D.pl] at h
  | n + 1, _, .scr _, _, h => by simp [D.pl] at h
  | 0, _, .nd _ _, _, h => by simp [D.pl] at h
  | n + 1, _, .nd .lst ds, h, k => by
    cases h with
    | cell _ c r => exact .lst (.inl (.inl c.at_)) (Rps.dp (n := n) ds r (by simpa [D.pl] using k))
  | n + 1, _, .nd .tup ds, h, k => by
    cases h with
    | tup c _ r => exact .tup (sqT_of c) (Rps.dp (n := n) ds r (by simpa [D.pl] using k))
    | cell hn _ _ => exact absurd rfl hn
  | n + 1, _, .nd (.dK _) _, _, h => by simp [D.pl] at h
  | n + 1, _, .nd (.dT _) _, _, h => by simp [D.pl] at h
  | n + 1, _, .nd (.ins _ _) _, _, h => by simp [D.pl] at h
theorem Rps.dp : ∀ {n : Nat} {vs : List V} (ds : List D), Rps K B vs ds → Dspl n ds = true → DpAll K B vs (Dspy ds)
  | n, _, [], h, _ => by cases h; exact .nil
  | n, _, d :: ds, h, k => by
    cases h with
    | cons r s =>
      have k' : D.pl n d = true ∧ Dspl n ds = true := by simpa [Dspl] using k
      exact .cons (Rp.dp d r k'.1) (Rps.dp ds s k'.2)
end
def shL : T → Option (List D)
  | .fz (.nd .lst ds) => some ds
  | .ow .lst ds => some ds
  | _ => none
def shT : T → Option (List D)
  | .fz (.nd .tup ds) => some ds
  | .ow .tup ds => some ds
  | _ => none
theorem Ro.int {x : V} {i : Int} (h : Ro K H ow x (.fz (.int i))) : x = .int i := by
  have := h.rd; cases this; rfl
theorem Ro.str {x : V} {i : Str} (h : Ro K H ow x (.fz (.str i))) : x = .str i := by
  have := h.rd; cases this; rfl
theorem Ro.bl {x : V} {i : Bool} (h : Ro K H ow x (.fz (.bl i))) : x = .bl i := by
  have := h.rd; cases this; rfl
theorem Ro.non {x : V} (h : Ro K H ow x (.fz .non)) : x = .non := by
  have := h.rd; cases this; rfl
theorem Ro.lst {x : V} {t : T} {ds : List D} (h : Ro K H ow x t) (e : shL t = some ds) : ∃ a vs, x = .ref a ∧ H a = some (.lst vs) ∧ vs.length ≤ sizeLine ∧ Rps K (Bs H ow) vs ds := by
  unfold shL at e
  split at e
  · cases e
    obtain ⟨l, h⟩ := h
    cases Tq.fz_.mp h with
    | cell _ c r => exact ⟨_, _, rfl, bs_same H ow _ _ c.at_, c.sz, r⟩
  · cases e
    obtain ⟨l, S, h⟩ := h
    cases h with
    | ow c _ r => exact ⟨_, _, rfl, c.at_, c.sz, r⟩
  · cases e
theorem Ro.tup {x : V} {t : T} {ds : List D} (h : Ro K H ow x t) (e : shT t = some ds) : ∃ a vs, x = .ref a ∧ SqT K H a vs ∧ vs.length ≤ sizeLine ∧ Rps K (Bs H ow) vs ds := by
  unfold shT at e
  split at e
  · cases e
    obtain ⟨l, h⟩ := h
    cases Tq.fz_.mp h with
    | tup c z r => exact ⟨_, _, rfl, sqT_of (bs_same H ow _ _ c), z, r⟩
    | cell hn _ _ => exact absurd rfl hn
  · cases e
    obtain ⟨l, S, h⟩ := h
    cases h with
    | ow c _ r => exact ⟨_, _, rfl, .inl (.inl c.at_), c.sz, r⟩
  · cases e
end

def intG (C : Int → Int → Prop) (g : Int → Int → D) (t u : T) (Q : T → Prop) : Prop := match t, u with
  | .fz (.int i), .fz (.int j) => C i j ∧ Q (.fz (g i j))
  | _, _ => False
def int0G (g : Int → Int → D) (t u : T) (Q : T → Prop) : Prop := match t, u with
  | .fz (.int i), .fz (.int j) => Q (.fz (g i j))
  | _, _ => False
section
variable {K : PySem.W.Frag}
theorem g_int {C : Int → Int → Prop} {f : Int → Int → V} {g : Int → Int → D} (hf : ∀ B i j, Rp K B (f i j) (g i j)) : Op2 K (rI C f) (intG C g) := by
  intro H ow n x y t u Q Qv rx ry h k
  unfold intG at h
  split at h
  · exact ⟨_, _, rx.int, ry.int, h.1, k _ _ H ow Stp.refl (Tq.fz_.mpr (hf _ _ _)) h.2⟩
  · exact h.elim
theorem g_int0 {f : Int → Int → V} {g : Int → Int → D} (hf : ∀ B i j, Rp K B (f i j) (g i j)) : Op2 K (rI0 f) (int0G g) := by
  intro H ow n x y t u Q Qv rx ry h k
  unfold int0G at h
  split at h
  · exact ⟨_, _, rx.int, ry.int, k _ _ H ow Stp.refl (Tq.fz_.mpr (hf _ _ _)) h⟩
  · exact h.elim
def addG (t u : T) (Q : T → Prop) : Prop := match t, u with
  | .fz (.int i), .fz (.int j) => Q (.fz (.int (i + j)))
  | .fz (.str a), .fz (.str b) => a.length + b.length ≤ sizeLine ∧ Q (.fz (.str (a ++ b)))
  | .fz (.nd .tup ds), .fz (.nd .tup es) => ds.length + es.length ≤ sizeLine ∧ Q (.fz (.nd .tup (ds ++ es)))
  | .fz (.nd .lst ds), .fz (.nd .lst es) => ds.length + es.length ≤ sizeLine ∧ Q (.ow .lst (ds ++ es))
  | .fz (.nd .lst ds), .ow .lst es => ds.length + es.length ≤ sizeLine ∧ Q (.ow .lst (ds ++ es))
  | .ow .lst ds, .fz (.nd .lst es) => ds.length + es.length ≤ sizeLine ∧ Q (.ow .lst (ds ++ es))
  | .ow .lst ds, .ow .lst es => ds.length + es.length ≤ sizeLine ∧ Q (.ow .lst (ds ++ es))
  | _, _ => False
def rAddAll (K : PySem.W.Frag) : R2 := fun x y H Q => rI0 (fun i j => .int (i + j)) x y H Q ∨ (∃ i j, x = .str i ∧ y = .str j ∧ i.length + j.length ≤ sizeLine ∧ Q (.str (i ++ j)) H) ∨ rCatA K x y H Q ∨ rCat x y H Q
theorem op_addAll {X : Cx} : OpR X (binaryOp .Add) (rAddAll X.K) := op_add.or (op_add_str.or (op_catA.or op_cat))
theorem cat_of {H : Hp} {ow : Ow} {n : Nat} {x y : V} {t u : T} {ds es : List D} {Q : T → Prop} {Qv : VK} (rx : Ro K H ow x t) (ry : Ro K H ow y u) (ht : shL t = some ds) (hu : shL u = some es) (hz : ds.length + es.length ≤ sizeLine) (q : Q (.ow .lst (ds ++ es)))
    (k : ∀ v w H' ow', Stp [] n H ow H' ow' → Tq K H' ow' (.tm n) v w → Q w → Qv v H') : rCat x y H Qv := by
  obtain ⟨a, vs, e1, h1, z1, r1⟩ := rx.lst ht
  obtain ⟨b, ws, e2, h2, z2, r2⟩ := ry.lst hu
  have l1 := r1.len
  have l2 := r2.len
  refine ⟨a, b, vs, ws, e1, e2, h1, h2, by omega, fun p hp => k _ _ _ (Ow.put ow p (.tm n)) (Stp.new hp) (Tq.newL hp (by rw [List.length_append]; omega) (r1.app r2)) q⟩
theorem g_add : Op2 K (rAddAll K) addG := by
  intro H ow n x y t u Q Qv rx ry h k
  unfold addG at h
  split at h
  · exact .inl ⟨_, _, rx.int, ry.int, k _ _ H ow Stp.refl (Tq.fz_.mpr (.int _)) h⟩
  · exact .inr (.inl ⟨_, _, rx.str, ry.str, h.1, k _ _ H ow Stp.refl (Tq.fz_.mpr (.str _)) h.2⟩)
  · rename_i ds es
    obtain ⟨a, vs, e1, h1, z1, r1⟩ := rx.tup rfl
    obtain ⟨b, ws, e2, h2, z2, r2⟩ := ry.tup rfl
    have l1 := r1.len
    have l2 := r2.len
    refine .inr (.inr (.inl ⟨a, b, vs, ws, e1, e2, h1, h2, by omega, fun z => ?_, fun _ z => ?_, fun _ _ p hp => ?_⟩))
    · subst z
      cases ds with
      | cons _ _ => simp at l1
      | nil =>
        have h3 := h.2
        rw [List.nil_append] at h3
        subst e2
        exact k _ _ H ow Stp.refl (by obtain ⟨l, ry⟩ := ry; exact Tq.fz_.mpr (Tq.fz_.mp ry)) h3
    · subst z
      cases es with
      | cons _ _ => simp at l2
      | nil =>
        have h3 := h.2
        rw [List.append_nil] at h3
        subst e1
        exact k _ _ H ow Stp.refl (by obtain ⟨l, rx⟩ := rx; exact Tq.fz_.mpr (Tq.fz_.mp rx)) h3
    · have y1 : Stp [] n H ow (upd H p (.tup (vs ++ ws))) (Ow.put ow p (.tm n)) := Stp.new hp
      have q1 := Tq.newT (K := K) (l := .tm n) (vs := vs ++ ws) hp (by rw [List.length_append]; omega) (r1.app r2)
      have y2 : Stp [] n (upd H p (.tup (vs ++ ws))) (Ow.put ow p (.tm n)) (upd H p (.tup (vs ++ ws))) (Ow.mv (Ow.put ow p (.tm n)) (.tm n) .base) := Stp.mv not_tm
      exact k _ _ _ _ (y1.trans y2 (fun _ h => h) (fun _ h => h) (Nat.le_refl _) (Nat.le_refl _)) (Tq.fz_.mpr (q1.frz fun z => nomatch z)) h.2
  · exact .inr (.inr (.inr (cat_of rx ry rfl rfl h.1 h.2 k)))
  · exact .inr (.inr (.inr (cat_of rx ry rfl rfl h.1 h.2 k)))
  · exact .inr (.inr (.inr (cat_of rx ry rfl rfl h.1 h.2 k)))
  · exact .inr (.inr (.inr (cat_of rx ry rfl rfl h.1 h.2 k)))
  · exact h.elim
end
end QV

set_option Elab.async false
set_option linter.all false
set_option maxRecDepth 100000
set_option maxHeartbeats 2000000
namespace QV
open PySem L2

def scD : D → D → Bool
  | .non, .non => true | .non, .int _ => true | .int _, .non => true | .non, .bl _ => true | .bl _, .non => true | .non, .str _ => true | .str _, .non => true
  | .int _, .int _ => true | .bl _, .bl _ => true | .str _, .str _ => true
  | .int _, .str _ => true | .str _, .int _ => true | .bl _, .str _ => true | .str _, .bl _ => true
  | _, _ => false
def flD : D → Bool
  | .non => true
  | .bl _ => true
  | .int _ => true
  | .str _ => true
  | _ => false
section
variable {K : PySem.W.Frag} {B : Hp} {x y : V} {d e : D}
theorem sc_eq (rx : Rp K B x d) (ry : Rp K B y e) (h : scD d e = true) : scal x y = true ∧ decide (x = y) = eqD d e := by
  cases rx <;> cases ry <;> simp [scD] at h <;> simp [scal, eqD]
theorem fl_V (rx : Rp K B x d) (h : flD d = true) : flatV x = true := by
  cases rx <;> simp [flD] at h <;> rfl
theorem fl_eq (rx : Rp K B x d) (ry : Rp K B y e) (h : flD d = true) (h' : flD e = true) : eqV x y = eqD d e := by
  cases rx <;> cases ry <;> simp [flD] at h h' <;> simp [eqV, eqD, Bool.beq_eq_decide_eq]
theorem fl_all : ∀ {vs : List V} {ds : List D}, Rps K B vs ds → ds.all flD = true → vs.all flatV = true
  | _, _, .nil, _ => rfl
  | _, _, .cons r s, h => by
    rw [List.all_cons, Bool.and_eq_true] at h
    rw [List.all_cons, fl_V r h.1, fl_all s h.2]
    rfl
theorem fl_any (rx : Rp K B x d) (h : flD d = true) : ∀ {vs : List V} {ds : List D}, Rps K B vs ds → ds.all flD = true → inV x vs = ds.any fun z => eqD z d
  | _, _, .nil, _ => rfl
  | _, _, .cons r s, k => by
    rw [List.all_cons, Bool.and_eq_true] at k
    show ((eqV _ x) || inV x _) = _
    rw [List.any_cons, fl_eq r rx k.1 h, fl_any rx h s k.2]
theorem pl_any {n m : Nat} (h : d.pl n = true) : ∀ ds : List D, Dspl m ds = true → ((Dspy ds).any fun z => PyData.eqv z d.py) = ds.any fun z => eqD z d
  | [], _ => rfl
  | e :: ds, k => by
    have k' : D.pl m e = true ∧ Dspl m ds = true := by simpa [Dspl] using k
    show (PyData.eqv e.py d.py || (Dspy ds).any fun z => PyData.eqv z d.py) = (eqD e d || ds.any fun z => eqD z d)
    rw [eqD_py e d k'.1 h, pl_any h ds k'.2]
end
def eqG (neg : Bool) (t u : T) (Q : T → Prop) : Prop := (scD t.d u.d = true ∨ (t.d.pl 64 = true ∧ u.d.pl 64 = true)) ∧ Q (.fz (.bl (if neg then !eqD t.d u.d else eqD t.d u.d)))
def inG (neg : Bool) (t u : T) (Q : T → Prop) : Prop := match u with
  | .fz (.nd .lst es) => ((flD t.d && es.all flD) = true ∨ (t.d.pl 63 = true ∧ Dspl 63 es = true)) ∧ Q (.fz (.bl (if neg then !es.any (fun z => eqD z t.d) else es.any fun z => eqD z t.d)))
  | .ow .lst es => ((flD t.d && es.all flD) = true ∨ (t.d.pl 63 = true ∧ Dspl 63 es = true)) ∧ Q (.fz (.bl (if neg then !es.any (fun z => eqD z t.d) else es.any fun z => eqD z t.d)))
  | .fz (.nd .tup es) => (flD t.d && es.all flD) = true ∧ Q (.fz (.bl (if neg then !es.any (fun z => eqD z t.d) else es.any fun z => eqD z t.d)))
  | .ow .tup es => (flD t.d && es.all flD) = true ∧ Q (.fz (.bl (if neg then !es.any (fun z => eqD z t.d) else es.any fun z => eqD z t.d)))
  | .fz (.str z) => ∃ c, t = .fz (.str ⟨#[c]⟩) ∧ Q (.fz (.bl (if neg then !decide (c ∈ z.cps.toList) else decide (c ∈ z.cps.toList))))
  | _ => False
def nonD : D → Bool
  | .non => true
  | _ => false
def isNG (neg : Bool) (t u : T) (Q : T → Prop) : Prop := match u with
  | .fz .non => Q (.fz (.bl (if neg then !nonD t.d else nonD t.d)))
  | _ => False
section
variable {K : PySem.W.Frag} {X : Cx}
def rEqAll (K : PySem.W.Frag) : R2 := fun x y H Q => rEq x y H Q ∨ rEqD K x y H Q
def rNeAll (K : PySem.W.Frag) : R2 := fun x y H Q => rNe x y H Q ∨ rNeD K x y H Q
theorem op_eqAll (hu : X.A.units + 64 < cLine) : OpR X (compareOp .Eq) (rEqAll X.K) := op_eq.or (op_eqD hu)
theorem op_neAll (hu : X.A.units + 64 < cLine) : OpR X (compareOp .NotEq) (rNeAll X.K) := op_ne.or (op_neD hu)
theorem g_eq : Op2 K (rEqAll K) (eqG false) := by
  intro H ow n x y t u Q Qv rx ry h k
  obtain ⟨h | h, q⟩ := h
  · obtain ⟨e1, e2⟩ := sc_eq rx.rd ry.rd h
    exact .inl ⟨e1, k _ _ H ow Stp.refl (Tq.fz_.mpr (by rw [e2]; exact .bl _)) q⟩
  · exact .inr ⟨_, _, rx.rd.dp _ h.1, ry.rd.dp _ h.2, D.pl_shaped h.1 (Nat.le_refl _), D.pl_shaped h.2 (Nat.le_refl _), k _ _ H ow Stp.refl (Tq.fz_.mpr (by rw [← eqD_py _ _ h.1 h.2]; exact .bl _)) q⟩
theorem g_ne : Op2 K (rNeAll K) (eqG true) := by
  intro H ow n x y t u Q Qv rx ry h k
  obtain ⟨h | h, q⟩ := h
  · obtain ⟨e1, e2⟩ := sc_eq rx.rd ry.rd h
    exact .inl ⟨e1, k _ _ H ow Stp.refl (Tq.fz_.mpr (by rw [e2]; exact .bl _)) q⟩
  · exact .inr ⟨_, _, rx.rd.dp _ h.1, ry.rd.dp _ h.2, D.pl_shaped h.1 (Nat.le_refl _), D.pl_shaped h.2 (Nat.le_refl _), k _ _ H ow Stp.refl (Tq.fz_.mpr (by rw [← eqD_py _ _ h.1 h.2]; exact .bl _)) q⟩
def rInAll (K : PySem.W.Frag) (neg : Bool) : R2 := fun x y H Q => rIn K neg x y H Q ∨ (∃ d ds, Dp K H x d ∧ Dp K H y (.list ds) ∧ SeqAt.shaped d = true ∧ SeqAt.shaped (.list ds) = true ∧ Q (.bl (if neg then !ds.any (fun z => PyData.eqv z d) else ds.any fun z => PyData.eqv z d)) H) ∨
  (∃ (c : Nat) (z : Str), x = .str ⟨#[c]⟩ ∧ y = .str z ∧ Q (.bl (if neg then !decide (c ∈ z.cps.toList) else decide (c ∈ z.cps.toList))) H)
theorem g_in (neg : Bool) : Op2 K (rInAll K neg) (inG neg) := by
  intro H ow n x y t u Q Qv rx ry h k
  have lst : ∀ {es : List D}, shL u = some es → u.d = .nd .lst es → ((flD t.d && es.all flD) = true ∨ (t.d.pl 63 = true ∧ Dspl 63 es = true)) ∧ Q (.fz (.bl (if neg then !es.any (fun z => eqD z t.d) else es.any fun z => eqD z t.d))) → rInAll K neg x y H Qv := fun {es} e1 e2 hq => by
    obtain ⟨a, vs, rfl, h1, z1, r1⟩ := ry.lst e1
    obtain ⟨hc | hc, q⟩ := hq
    · rw [Bool.and_eq_true] at hc
      refine .inl ⟨a, vs, rfl, .inl (.inl (.inl h1)), fl_V rx.rd hc.1, fl_all r1 hc.2, k _ _ H ow Stp.refl (Tq.fz_.mpr ?_) q⟩
      rw [fl_any rx.rd hc.1 (r1.mono (bs_same H ow)) hc.2]
      exact .bl _
    · have p1 : (D.nd .lst es).pl 64 = true := by simpa [D.pl] using hc.2
      have hy := ry.rd
      rw [e2] at hy
      have d1 := hy.dp _ p1
      have s1 := D.pl_shaped p1 (Nat.le_refl _)
      refine .inr (.inl ⟨t.d.py, Dspy es, rx.rd.dp _ hc.1, by simpa [D.py] using d1, D.pl_shaped hc.1 (by decide), by simpa [D.py] using s1, k _ _ H ow Stp.refl (Tq.fz_.mpr ?_) q⟩)
      rw [pl_any hc.1 es hc.2]
      exact .bl _
  have tup : ∀ {es : List D}, shT u = some es → (flD t.d && es.all flD) = true ∧ Q (.fz (.bl (if neg then !es.any (fun z => eqD z t.d) else es.any fun z => eqD z t.d))) → rInAll K neg x y H Qv := fun {es} e1 hq => by
    obtain ⟨a, vs, rfl, h1, z1, r1⟩ := ry.tup e1
    obtain ⟨hc, q⟩ := hq
    rw [Bool.and_eq_true] at hc
    refine .inl ⟨a, vs, rfl, .inr h1, fl_V rx.rd hc.1, fl_all r1 hc.2, k _ _ H ow Stp.refl (Tq.fz_.mpr ?_) q⟩
    rw [fl_any rx.rd hc.1 (r1.mono (bs_same H ow)) hc.2]
    exact .bl _
  unfold inG at h
  split at h
  · exact lst rfl rfl h
  · exact lst rfl rfl h
  · exact tup rfl h
  · exact tup rfl h
  · obtain ⟨c, rfl, h⟩ := h
    exact .inr (.inr ⟨_, _, rx.str, ry.str, k _ _ H ow Stp.refl (Tq.fz_.mpr (.bl _)) h⟩)
  · exact h.elim
theorem op_inAll (hu : X.A.units + 65 < cLine) : OpR X (compareOp .In) (rInAll X.K false) :=
  op_in_seq.or (OpR.or (op_inD hu) fun pins s σ H x y v u Q I rx ry ⟨c, z, e1, e2, q⟩ => op_in_sign pins s σ H x y v u Q I rx ry ⟨c, z, e1, e2, q⟩)
theorem op_niAll (hu : X.A.units + 65 < cLine) : OpR X (compareOp .NotIn) (rInAll X.K true) :=
  op_notIn_seq.or (OpR.or (op_notInD hu) fun pins s σ H x y v u Q I rx ry ⟨c, z, e1, e2, q⟩ => op_notIn_sign pins s σ H x y v u Q I rx ry ⟨c, z, e1, e2, q⟩)
theorem non_iff {B : Hp} {x : V} {d : D} (r : Rp K B x d) : decide (x = .non) = nonD d := by
  cases r <;> simp [nonD]
theorem g_isN : Op2 K (fun x y H Q => y = .non ∧ Q (.bl (decide (x = .non))) H) (isNG false) := by
  intro H ow n x y t u Q Qv rx ry h k
  unfold isNG at h
  split at h
  · refine ⟨ry.non, k _ _ H ow Stp.refl (Tq.fz_.mpr (.bl _)) ?_⟩
    rw [non_iff rx.rd]
    exact h
  · exact h.elim
theorem g_notN : Op2 K (fun x y H Q => y = .non ∧ Q (.bl (!decide (x = .non))) H) (isNG true) := by
  intro H ow n x y t u Q Qv rx ry h k
  unfold isNG at h
  split at h
  · refine ⟨ry.non, k _ _ H ow Stp.refl (Tq.fz_.mpr (.bl _)) ?_⟩
    rw [non_iff rx.rd]
    exact h
  · exact h.elim
def ixG (t u : T) (Q : T → Prop) : Prop := match u with
  | .fz (.int i) => match t with
    | .fz (.nd .lst ds) => ∃ d, atI ds i = some d ∧ Q (.fz d)
    | .ow .lst ds => ∃ d, atI ds i = some d ∧ Q (.fz d)
    | .fz (.nd .tup ds) => ∃ d, atI ds i = some d ∧ Q (.fz d)
    | .ow .tup ds => ∃ d, atI ds i = some d ∧ Q (.fz d)
    | .fz (.str z) => z.length ≤ sizeLine ∧ ∃ c, atI z.cps.toList i = some c ∧ Q (.fz (.str ⟨#[c]⟩))
    | _ => False
  | _ => False
theorem Rps.atI {B : Hp} {vs : List V} {ds : List D} {i : Int} {d : D} (r : Rps K B vs ds) (h : L2.atI ds i = some d) : ∃ v, L2.atI vs i = some v ∧ Rp K B v d := by
  unfold L2.atI at h ⊢
  rw [r.len]
  cases e : ixN ds.length i with
  | none => rw [e] at h; cases h
  | some j =>
    rw [e] at h
    obtain ⟨v, h1, h2⟩ := r.get (i := j) (d := d) h
    exact ⟨v, h1, h2⟩
theorem g_ix : Op2 K (rIx K) ixG := by
  intro H ow n x y t u Q Qv rx ry h k
  have lst : ∀ {i : Int} {ds : List D}, y = .int i → shL t = some ds → (∃ d, atI ds i = some d ∧ Q (.fz d)) → rIx K x y H Qv := fun {i ds} ei e hd => by
    obtain ⟨d, hd, q⟩ := hd
    obtain ⟨a, vs, rfl, h1, z1, r1⟩ := rx.lst e
    obtain ⟨v, e1, r2⟩ := r1.atI hd
    exact .inl ⟨a, vs, i, v, rfl, ei, .inl (.inl h1), e1, k _ _ H ow Stp.refl (Tq.fz_.mpr r2) q⟩
  have tup : ∀ {i : Int} {ds : List D}, y = .int i → shT t = some ds → (∃ d, atI ds i = some d ∧ Q (.fz d)) → rIx K x y H Qv := fun {i ds} ei e hd => by
    obtain ⟨d, hd, q⟩ := hd
    obtain ⟨a, vs, rfl, h1, z1, r1⟩ := rx.tup e
    obtain ⟨v, e1, r2⟩ := r1.atI hd
    exact .inr (.inl ⟨a, vs, i, v, rfl, ei, h1, e1, k _ _ H ow Stp.refl (Tq.fz_.mpr r2) q⟩)
  unfold ixG at h
  split at h
  · have ei := ry.int
    split at h
    · exact lst ei rfl h
    · exact lst ei rfl h
    · exact tup ei rfl h
    · exact tup ei rfl h
    · obtain ⟨hz, c, hc, q⟩ := h
      exact .inr (.inr ⟨_, _, c, rx.str, ei, hz, hc, k _ _ H ow Stp.refl (Tq.fz_.mpr (.str _)) q⟩)
    · exact h.elim
  · exact h.elim
end

section
variable {X : Cx} {W : WX} {M Ma Mb Mc : List Nat} {e a b c : Expr} {pa pb pc : SemP} {qa qb qc : SemE} {ra rb rc root : Option Nat} {pos : Pos}
theorem q_add (ha : QP X W Ma ra a pa) (hb : QP X W Mb rb b pb) (hr : okR ra Mb = true := by decide) : QE X W (Ma ++ Mb) (.BinOp a .Add b pos) (s2 pa pb addG) := q_op op_addAll g_add ha hb hr
theorem q_sub (ha : QP X W Ma ra a pa) (hb : QP X W Mb rb b pb) (hr : okR ra Mb = true := by decide) : QE X W (Ma ++ Mb) (.BinOp a .Sub b pos) (s2 pa pb (int0G fun i j => .int (i - j))) := q_op op_sub (g_int0 fun _ _ _ => .int _) ha hb hr
theorem q_mul (ha : QP X W Ma ra a pa) (hb : QP X W Mb rb b pb) (hr : okR ra Mb = true := by decide) : QE X W (Ma ++ Mb) (.BinOp a .Mult b pos) (s2 pa pb (intG CMul fun i j => .int (i * j))) := q_op op_mul (g_int fun _ _ _ => .int _) ha hb hr
theorem q_fdiv (ha : QP X W Ma ra a pa) (hb : QP X W Mb rb b pb) (hr : okR ra Mb = true := by decide) : QE X W (Ma ++ Mb) (.BinOp a .FloorDiv b pos) (s2 pa pb (intG CDivW fun i j => .int (i / j))) := q_op op_fdivW (g_int fun _ _ _ => .int _) ha hb hr
theorem q_mod (ha : QP X W Ma ra a pa) (hb : QP X W Mb rb b pb) (hr : okR ra Mb = true := by decide) : QE X W (Ma ++ Mb) (.BinOp a .Mod b pos) (s2 pa pb (intG (fun _ j => 0 < j) fun i j => .int (i % j))) := q_op op_mod (g_int fun _ _ _ => .int _) ha hb hr
theorem q_pow (ha : QP X W Ma ra a pa) (hb : QP X W Mb rb b pb) (hr : okR ra Mb = true := by decide) : QE X W (Ma ++ Mb) (.BinOp a .Pow b pos) (s2 pa pb (intG CPow fun i j => .int (i ^ j.toNat))) := q_op op_pow (g_int fun _ _ _ => .int _) ha hb hr
theorem q_neg (ha : QP X W M root a pa) : QE X W M (.UnaryOp .USub a pos) (s1 pa fun t Q => match t with | .fz (.int i) => Q (.fz (.int (-i))) | _ => False) := q_un un_neg (fun H ow n x t Q Qv rx h k => by
  split at h
  · exact ⟨_, rx.int, k _ _ H ow Stp.refl (Tq.fz_.mpr (.int _)) h⟩
  · exact h.elim) ha
theorem q_ix (ha : QP X W Ma ra a pa) (hb : QP X W Mb rb b pb) (hs : PlainIx b := by exact fun _ _ => rfl) (hr : okR ra Mb = true := by decide) : QE X W (Ma ++ Mb) (.Subscript a b pos) (s2 pa pb ixG) := q_ixR ix_seq g_ix ha hb hs hr
theorem q_lt (ha : QP X W Ma ra a pa) (hb : QP X W Mb rb b pb) (hr : okR ra Mb = true := by decide) : QE X W (Ma ++ Mb) (.Compare a [.Lt] [b] pos) (s2 pa pb (int0G fun i j => .bl (decide (i < j)))) := q_cmp op_lt (g_int0 fun _ _ _ => .bl _) ha hb (nomark _) hr
theorem q_le (ha : QP X W Ma ra a pa) (hb : QP X W Mb rb b pb) (hr : okR ra Mb = true := by decide) : QE X W (Ma ++ Mb) (.Compare a [.LtE] [b] pos) (s2 pa pb (int0G fun i j => .bl (decide (i ≤ j)))) := q_cmp op_le (g_int0 fun _ _ _ => .bl _) ha hb (nomark _) hr
theorem q_gt (ha : QP X W Ma ra a pa) (hb : QP X W Mb rb b pb) (hr : okR ra Mb = true := by decide) : QE X W (Ma ++ Mb) (.Compare a [.Gt] [b] pos) (s2 pa pb (int0G fun i j => .bl (decide (j < i)))) := q_cmp op_gt (g_int0 fun _ _ _ => .bl _) ha hb (nomark _) hr
theorem q_ge (ha : QP X W Ma ra a pa) (hb : QP X W Mb rb b pb) (hr : okR ra Mb = true := by decide) : QE X W (Ma ++ Mb) (.Compare a [.GtE] [b] pos) (s2 pa pb (int0G fun i j => .bl (decide (j ≤ i)))) := q_cmp op_ge (g_int0 fun _ _ _ => .bl _) ha hb (nomark _) hr
theorem q_eq (hu : X.A.units + 65 < cLine) (ha : QP X W Ma ra a pa) (hb : QP X W Mb rb b pb) (hr : okR ra Mb = true := by decide) : QE X W (Ma ++ Mb) (.Compare a [.Eq] [b] pos) (s2 pa pb (eqG false)) := q_cmp (op_eqAll (by omega)) g_eq ha hb (nomark _) hr
theorem q_ne (hu : X.A.units + 65 < cLine) (ha : QP X W Ma ra a pa) (hb : QP X W Mb rb b pb) (hr : okR ra Mb = true := by decide) : QE X W (Ma ++ Mb) (.Compare a [.NotEq] [b] pos) (s2 pa pb (eqG true)) := q_cmp (op_neAll (by omega)) g_ne ha hb (nomark _) hr
theorem q_in (hu : X.A.units + 65 < cLine) (ha : QP X W Ma ra a pa) (hb : QP X W Mb rb b pb) (hr : okR ra Mb = true := by decide) (hm : behindInMarks .In b = false := by rfl) : QE X W (Ma ++ Mb) (.Compare a [.In] [b] pos) (s2 pa pb (inG false)) := q_cmp (op_inAll hu) (g_in false) ha hb hm hr
theorem q_ni (hu : X.A.units + 65 < cLine) (ha : QP X W Ma ra a pa) (hb : QP X W Mb rb b pb) (hr : okR ra Mb = true := by decide) (hm : behindInMarks .NotIn b = false := by rfl) : QE X W (Ma ++ Mb) (.Compare a [.NotIn] [b] pos) (s2 pa pb (inG true)) := q_cmp (op_niAll hu) (g_in true) ha hb hm hr
theorem q_isN (ha : QP X W Ma ra a pa) (hb : QP X W Mb rb b pb) (hr : okR ra Mb = true := by decide) : QE X W (Ma ++ Mb) (.Compare a [.Is] [b] pos) (s2 pa pb (isNG false)) := q_cmp op_isN g_isN ha hb (nomark _) hr
theorem q_notN (ha : QP X W Ma ra a pa) (hb : QP X W Mb rb b pb) (hr : okR ra Mb = true := by decide) : QE X W (Ma ++ Mb) (.Compare a [.IsNot] [b] pos) (s2 pa pb (isNG true)) := q_cmp op_notN g_notN ha hb (nomark _) hr
end
end QV

set_option Elab.async false
set_option linter.all false
set_option maxRecDepth 100000
set_option maxHeartbeats 2000000
namespace QV
open PySem L2

def sT (q : SemE) : SemT := fun env Q E => q env (fun w env' => match w with
  | .fz (.bl b) => Q b env'
  | _ => False) E
def sAnd (qa qb : SemT) : SemT := fun env Q E => qa env (fun c env1 => (c = true → qb env1 Q E) ∧ (c = false → Q false env1)) E
def sOr (qa qb : SemT) : SemT := fun env Q E => qa env (fun c env1 => (c = true → Q true env1) ∧ (c = false → qb env1 Q E)) E
def sAndM (qa qb : SemT) : SemT := fun env Q E => qa env (fun c env1 => ∃ b : Bool, (c = true → qb env1 (fun b' env2 => b' = b ∧ env2 = env1) fun _ _ => False) ∧ Q (c && b) env1) E
def sOrM (qa qb : SemT) : SemT := fun env Q E => qa env (fun c env1 => ∃ b : Bool, (c = false → qb env1 (fun b' env2 => b' = b ∧ env2 = env1) fun _ _ => False) ∧ Q (c || b) env1) E
def sNot (qa : SemT) : SemT := fun env Q E => qa env (fun c env1 => Q (!c) env1) E
def sTV (qa : SemT) : SemE := fun env Q E => qa env (fun c env1 => Q (.fz (.bl c)) env1) E
structure QW (X : Cx) (W : WX) (M : List Nat) (e : Expr) (q : SemT) : Prop where
  run : PW X e (tT X.K W M q)
section
variable {X : Cx} {W : WX} {M Ma Mb Mc : List Nat} {e a b c : Expr} {rest : List Expr} {pa pb pc : SemP} {q qa qb qc : SemE} {ta tb tc : SemT} {ra rb rc root : Option Nat} {pos : Pos}
theorem tT_of {K : PySem.W.Frag} {t : TE} {σ : L2.St} {H : Hp} {Q : Bool → Hp → Prop} (h : tT K W M (sT q) σ H Q) (f : ∀ Qv, tQ K W M q σ H Qv → t σ H Qv) : t σ H fun x H' => ∃ k, x = .bl k ∧ Q k H' := by
  obtain ⟨n, ow, env, Qe, E, s, hq, k, x⟩ := h
  refine f _ ⟨n, ow, env, _, E, s, hq, fun v t' H' ow' env' y1 s' o r z => ?_, x⟩
  split at z
  · exact ⟨_, by have := (Tq.rd r); cases this; rfl, k _ H' ow' env' y1 s' o z⟩
  · exact z.elim
theorem t_val (h : QE X W M e q) (he : ∀ whole, isTrue e X.env whole = (do let v ← whole; standAt e.pos; holding [v] (truthy v)) := by intro _; rfl) : QT X W M e (sT q) :=
  ⟨PT_imp (pt_val h.run he) fun _ _ _ hq => tT_of (t := tQ X.K W M q) hq fun _ z => z⟩
theorem t_cmpR {op : CmpOp} {r : R2} {g : T → T → (T → Prop) → Prop} (ho : OpR X (compareOp op) r) (hg : Op2 X.K r g) (ha : QP X W Ma ra a pa) (hb : QP X W Mb rb b pb) (hm : behindInMarks op b = false) (hr : okR ra Mb = true := by decide) : QT X W (Ma ++ Mb) (.Compare a [op] [b] pos) (sT (s2 pa pb g)) :=
  ⟨PT_imp (pt_cmpR ho ha.run hb.run hm) fun _ _ _ hq => tT_of (t := tOp r _ _) hq fun _ z => op2_run hg hr z⟩
theorem t_lt (ha : QP X W Ma ra a pa) (hb : QP X W Mb rb b pb) (hr : okR ra Mb = true := by decide) : QT X W (Ma ++ Mb) (.Compare a [.Lt] [b] pos) (sT (s2 pa pb (int0G fun i j => .bl (decide (i < j))))) := t_cmpR op_lt (g_int0 fun _ _ _ => .bl _) ha hb (nomark _) hr
theorem t_le (ha : QP X W Ma ra a pa) (hb : QP X W Mb rb b pb) (hr : okR ra Mb = true := by decide) : QT X W (Ma ++ Mb) (.Compare a [.LtE] [b] pos) (sT (s2 pa pb (int0G fun i j => .bl (decide (i ≤ j))))) := t_cmpR op_le (g_int0 fun _ _ _ => .bl _) ha hb (nomark _) hr
theorem t_gt (ha : QP X W Ma ra a pa) (hb : QP X W Mb rb b pb) (hr : okR ra Mb = true := by decide) : QT X W (Ma ++ Mb) (.Compare a [.Gt] [b] pos) (sT (s2 pa pb (int0G fun i j => .bl (decide (j < i))))) := t_cmpR op_gt (g_int0 fun _ _ _ => .bl _) ha hb (nomark _) hr
theorem t_ge (ha : QP X W Ma ra a pa) (hb : QP X W Mb rb b pb) (hr : okR ra Mb = true := by decide) : QT X W (Ma ++ Mb) (.Compare a [.GtE] [b] pos) (sT (s2 pa pb (int0G fun i j => .bl (decide (j ≤ i))))) := t_cmpR op_ge (g_int0 fun _ _ _ => .bl _) ha hb (nomark _) hr
theorem t_eq (hu : X.A.units + 65 < cLine) (ha : QP X W Ma ra a pa) (hb : QP X W Mb rb b pb) (hr : okR ra Mb = true := by decide) : QT X W (Ma ++ Mb) (.Compare a [.Eq] [b] pos) (sT (s2 pa pb (eqG false))) := t_cmpR (op_eqAll (by omega)) g_eq ha hb (nomark _) hr
theorem t_ne (hu : X.A.units + 65 < cLine) (ha : QP X W Ma ra a pa) (hb : QP X W Mb rb b pb) (hr : okR ra Mb = true := by decide) : QT X W (Ma ++ Mb) (.Compare a [.NotEq] [b] pos) (sT (s2 pa pb (eqG true))) := t_cmpR (op_neAll (by omega)) g_ne ha hb (nomark _) hr
theorem t_in (hu : X.A.units + 65 < cLine) (ha : QP X W Ma ra a pa) (hb : QP X W Mb rb b pb) (hr : okR ra Mb = true := by decide) (hm : behindInMarks .In b = false := by rfl) : QT X W (Ma ++ Mb) (.Compare a [.In] [b] pos) (sT (s2 pa pb (inG false))) := t_cmpR (op_inAll hu) (g_in false) ha hb hm hr
theorem t_ni (hu : X.A.units + 65 < cLine) (ha : QP X W Ma ra a pa) (hb : QP X W Mb rb b pb) (hr : okR ra Mb = true := by decide) (hm : behindInMarks .NotIn b = false := by rfl) : QT X W (Ma ++ Mb) (.Compare a [.NotIn] [b] pos) (sT (s2 pa pb (inG true))) := t_cmpR (op_niAll hu) (g_in true) ha hb hm hr
theorem t_isN (ha : QP X W Ma ra a pa) (hb : QP X W Mb rb b pb) (hr : okR ra Mb = true := by decide) : QT X W (Ma ++ Mb) (.Compare a [.Is] [b] pos) (sT (s2 pa pb (isNG false))) := t_cmpR op_isN g_isN ha hb (nomark _) hr
theorem t_notN (ha : QP X W Ma ra a pa) (hb : QP X W Mb rb b pb) (hr : okR ra Mb = true := by decide) : QT X W (Ma ++ Mb) (.Compare a [.IsNot] [b] pos) (sT (s2 pa pb (isNG true))) := t_cmpR op_notN g_notN ha hb (nomark _) hr
theorem t_not (ha : QT X W M a ta) : QT X W M (.UnaryOp .Not a pos) (sNot ta) := ⟨PT_imp (pt_not ha.run) fun σ H Qv ⟨n, ow, env, Q, E, s, hq, k, x⟩ => ⟨n, ow, env, _, E, s, hq, fun b H' ow' env' y s' o z => k _ H' ow' env' y s' o z, x⟩⟩
theorem QW.t (h : QW X W M e ta) : QT X W M e ta := ⟨h.run.pt⟩
theorem PW_imp {t t' : TT} (h : PW X e t) (f : ∀ σ H Q, t' σ H Q → t σ H Q) : PW X e t' := ⟨fun wh pins s σ H Q I q => h.run wh pins s σ H Q I (f _ _ _ q)⟩
theorem w_and1 (ha : QT X W M a ta) : QW X W M (.BoolOp .And [a] pos) ta := ⟨pw_and1 ha.run⟩
theorem w_or1 (ha : QT X W M a ta) : QW X W M (.BoolOp .Or [a] pos) ta := ⟨pw_or1 ha.run⟩
theorem w_and (ha : QT X W Ma a ta) (hb : QW X W Mb (.BoolOp .And (b :: rest) pos) tb) : QW X W (Ma ++ Mb) (.BoolOp .And (a :: b :: rest) pos) (sAnd ta tb) := ⟨PW_imp (pw_and ha.run hb.run) fun σ H Qv ⟨n, ow, env, Q, E, s, hq, k, x⟩ =>
  ⟨n, ow, env, _, E, s, hq, fun c H1 ow1 env1 y1 s1 o1 z => by
    cases c with
    | true => exact ⟨n, ow1, env1, Q, E, s1, z.1 rfl, fun d H2 ow2 env2 y2 s2 o2 z2 => k d H2 ow2 env2 (y1.trans y2 subl subr (Nat.le_refl _) (Nat.le_refl _)) s2 (o1.trans o2 subl subr) z2, x.step y1 o1 subl subr (Nat.le_refl _) (Nat.le_refl _)⟩
    | false => exact k false H1 ow1 env1 (y1.mono subl (Nat.le_refl _)) s1 (o1.mono subl) (z.2 rfl), fun r d H' ow' env' y s' o => x r d H' ow' env' (y.mono subl (Nat.le_refl _)) s' (o.mono subl)⟩⟩
theorem w_or (ha : QT X W Ma a ta) (hb : QW X W Mb (.BoolOp .Or (b :: rest) pos) tb) : QW X W (Ma ++ Mb) (.BoolOp .Or (a :: b :: rest) pos) (sOr ta tb) := ⟨PW_imp (pw_or ha.run hb.run) fun σ H Qv ⟨n, ow, env, Q, E, s, hq, k, x⟩ =>
  ⟨n, ow, env, _, E, s, hq, fun c H1 ow1 env1 y1 s1 o1 z => by
    cases c with
    | false => exact ⟨n, ow1, env1, Q, E, s1, z.2 rfl, fun d H2 ow2 env2 y2 s2 o2 z2 => k d H2 ow2 env2 (y1.trans y2 subl subr (Nat.le_refl _) (Nat.le_refl _)) s2 (o1.trans o2 subl subr) z2, x.step y1 o1 subl subr (Nat.le_refl _) (Nat.le_refl _)⟩
    | true => exact k true H1 ow1 env1 (y1.mono subl (Nat.le_refl _)) s1 (o1.mono subl) (z.1 rfl), fun r d H' ow' env' y s' o => x r d H' ow' env' (y.mono subl (Nat.le_refl _)) s' (o.mono subl)⟩⟩
theorem w_andM (ha : QT X W Ma a ta) (hb : QW X W Mb (.BoolOp .And (b :: rest) pos) tb) : QW X W (Ma ++ Mb) (.BoolOp .And (a :: b :: rest) pos) (sAndM ta tb) := ⟨PW_imp (pw_and ha.run hb.run) fun σ H Qv ⟨n, ow, env, Q, E, s, hq, k, x⟩ =>
  ⟨n, ow, env, _, E, s, hq, fun c H1 ow1 env1 y1 s1 o1 z => by
    obtain ⟨b', z1, z2⟩ := z
    cases c with
    | true =>
      refine ⟨n, ow1, env1, _, _, s1, z1 rfl, fun d H2 ow2 env2 y2 s2 o2 q2 => ?_, fun r d H' ow' env' y s' o zz ez => ez.elim⟩
      obtain ⟨rfl, rfl⟩ := q2
      exact k d H2 ow2 env2 (y1.trans y2 subl subr (Nat.le_refl _) (Nat.le_refl _)) s2 (o1.trans o2 subl subr) z2
    | false => exact k false H1 ow1 env1 (y1.mono subl (Nat.le_refl _)) s1 (o1.mono subl) z2, fun r d H' ow' env' y s' o => x r d H' ow' env' (y.mono subl (Nat.le_refl _)) s' (o.mono subl)⟩⟩
theorem w_orM (ha : QT X W Ma a ta) (hb : QW X W Mb (.BoolOp .Or (b :: rest) pos) tb) : QW X W (Ma ++ Mb) (.BoolOp .Or (a :: b :: rest) pos) (sOrM ta tb) := ⟨PW_imp (pw_or ha.run hb.run) fun σ H Qv ⟨n, ow, env, Q, E, s, hq, k, x⟩ =>
  ⟨n, ow, env, _, E, s, hq, fun c H1 ow1 env1 y1 s1 o1 z => by
    obtain ⟨b', z1, z2⟩ := z
    cases c with
    | false =>
      refine ⟨n, ow1, env1, _, _, s1, z1 rfl, fun d H2 ow2 env2 y2 s2 o2 q2 => ?_, fun r d H' ow' env' y s' o zz ez => ez.elim⟩
      obtain ⟨rfl, rfl⟩ := q2
      exact k d H2 ow2 env2 (y1.trans y2 subl subr (Nat.le_refl _) (Nat.le_refl _)) s2 (o1.trans o2 subl subr) z2
    | true => exact k true H1 ow1 env1 (y1.mono subl (Nat.le_refl _)) s1 (o1.mono subl) z2, fun r d H' ow' env' y s' o => x r d H' ow' env' (y.mono subl (Nat.le_refl _)) s' (o.mono subl)⟩⟩
def sAndV (qa qb : SemE) : SemE := fun env Q E => sT qa env (fun c env1 => (c = true → qb env1 Q E) ∧ (c = false → Q (.fz (.bl false)) env1)) E
def sOrV (qa qb : SemE) : SemE := fun env Q E => sT qa env (fun c env1 => (c = true → Q (.fz (.bl true)) env1) ∧ (c = false → qb env1 Q E)) E
theorem q_one {op} (h : QE X W M a q) : QE X W M (.BoolOp op [a] pos) q := ⟨pe_one h.run⟩
theorem bl_of {K : PySem.W.Frag} {H : Hp} {ow : Ow} {l : Lab} {v : V} {b : Bool} (r : Tq K H ow l v (.fz (.bl b))) : v = .bl b := by have := Tq.rd r; cases this; rfl
theorem q_and (ha : QE X W Ma a qa) (hb : QE X W Mb (.BoolOp .And (b :: rest) pos) qb) : QE X W (Ma ++ Mb) (.BoolOp .And (a :: b :: rest) pos) (sAndV qa qb) := ⟨PE_imp (pe_and ha.run hb.run) fun σ H Qv ⟨n, ow, env, Q, E, s, hq, k, x⟩ =>
  ⟨n, ow, env, _, E, s, hq, fun v t H1 ow1 env1 y1 s1 o1 r1 z => by
    split at z
    · rename_i c
      refine ⟨c, bl_of r1, ?_⟩
      cases c with
      | true =>
        rw [if_pos rfl]
        exact ⟨n, ow1, env1, Q, E, s1, z.1 rfl, fun v2 t2 H2 ow2 env2 y2 s2 o2 r2 z2 => k v2 t2 H2 ow2 env2 (y1.trans y2 subl subr (Nat.le_refl _) (Nat.le_refl _)) s2 (o1.trans o2 subl subr) r2 z2, x.step y1 o1 subl subr (Nat.le_refl _) (Nat.le_refl _)⟩
      | false =>
        rw [if_neg Bool.false_ne_true]
        exact k _ _ H1 ow1 env1 (y1.mono subl (Nat.le_refl _)) s1 (o1.mono subl) (Tq.fz_.mpr (.bl _)) (z.2 rfl)
    · exact z.elim, fun r d H' ow' env' y s' o => x r d H' ow' env' (y.mono subl (Nat.le_refl _)) s' (o.mono subl)⟩⟩
theorem q_or (ha : QE X W Ma a qa) (hb : QE X W Mb (.BoolOp .Or (b :: rest) pos) qb) : QE X W (Ma ++ Mb) (.BoolOp .Or (a :: b :: rest) pos) (sOrV qa qb) := ⟨PE_imp (pe_or ha.run hb.run) fun σ H Qv ⟨n, ow, env, Q, E, s, hq, k, x⟩ =>
  ⟨n, ow, env, _, E, s, hq, fun v t H1 ow1 env1 y1 s1 o1 r1 z => by
    split at z
    · rename_i c
      refine ⟨c, bl_of r1, ?_⟩
      cases c with
      | false =>
        rw [if_neg Bool.false_ne_true]
        exact ⟨n, ow1, env1, Q, E, s1, z.2 rfl, fun v2 t2 H2 ow2 env2 y2 s2 o2 r2 z2 => k v2 t2 H2 ow2 env2 (y1.trans y2 subl subr (Nat.le_refl _) (Nat.le_refl _)) s2 (o1.trans o2 subl subr) r2 z2, x.step y1 o1 subl subr (Nat.le_refl _) (Nat.le_refl _)⟩
      | true =>
        rw [if_pos rfl]
        exact k _ _ H1 ow1 env1 (y1.mono subl (Nat.le_refl _)) s1 (o1.mono subl) (Tq.fz_.mpr (.bl _)) (z.1 rfl)
    · exact z.elim, fun r d H' ow' env' y s' o => x r d H' ow' env' (y.mono subl (Nat.le_refl _)) s' (o.mono subl)⟩⟩
def sNotV (qa : SemE) : SemE := fun env Q E => sT qa env (fun c env1 => Q (.fz (.bl (!c))) env1) E
theorem q_not (ha : QE X W M a qa) : QE X W M (.UnaryOp .Not a pos) (sNotV qa) := ⟨PE_imp (pe_not ha.run) fun σ H Qv ⟨n, ow, env, Q, E, s, hq, k, x⟩ =>
  ⟨n, ow, env, _, E, s, hq, fun v t H1 ow1 env1 y1 s1 o1 r1 z => by
    split at z
    · rename_i c
      exact ⟨c, bl_of r1, k _ _ H1 ow1 env1 y1 s1 o1 (Tq.fz_.mpr (.bl _)) z⟩
    · exact z.elim, x⟩⟩
def sIf (t : SemT) (qa qb : SemE) : SemE := fun env Q E => t env (fun c env1 => (c = true → qa env1 Q E) ∧ (c = false → qb env1 Q E)) E
theorem q_ifx (hc : QT X W Mc c tc) (ha : QE X W Ma a qa) (hb : QE X W Mb b qb) : QE X W (Mc ++ (Ma ++ Mb)) (.IfExp c a b pos) (sIf tc qa qb) := ⟨PE_imp (pe_ifExp hc.run ha.run hb.run) fun σ H Qv ⟨n, ow, env, Q, E, s, hq, k, x⟩ =>
  ⟨n, ow, env, _, E, s, hq, fun d H1 ow1 env1 y1 s1 o1 z => by
    cases d with
    | true =>
      rw [if_pos rfl]
      exact ⟨n, ow1, env1, Q, E, s1, z.1 rfl, fun v2 t2 H2 ow2 env2 y2 s2 o2 r2 z2 => k v2 t2 H2 ow2 env2 (y1.trans y2 subl (fun i h => subr i (subl i h)) (Nat.le_refl _) (Nat.le_refl _)) s2 (o1.trans o2 subl (fun i h => subr i (subl i h))) r2 z2, x.step y1 o1 subl (fun i h => subr i (subl i h)) (Nat.le_refl _) (Nat.le_refl _)⟩
    | false =>
      rw [if_neg Bool.false_ne_true]
      exact ⟨n, ow1, env1, Q, E, s1, z.2 rfl, fun v2 t2 H2 ow2 env2 y2 s2 o2 r2 z2 => k v2 t2 H2 ow2 env2 (y1.trans y2 subl (fun i h => subr i (subr i h)) (Nat.le_refl _) (Nat.le_refl _)) s2 (o1.trans o2 subl (fun i h => subr i (subr i h))) r2 z2, x.step y1 o1 subl (fun i h => subr i (subr i h)) (Nat.le_refl _) (Nat.le_refl _)⟩,
    fun r d H' ow' env' y s' o => x r d H' ow' env' (y.mono subl (Nat.le_refl _)) s' (o.mono subl)⟩⟩

def sChain (pa pb pc : SemP) (f g : Int → Int → Bool) : SemT := fun env Q E => pa env (fun t _ env1 => pb env1 (fun u _ env2 => match t, u with
  | .fz (.int i), .fz (.int j) => ∃ b : Bool, (f i j = true → pc env2 (fun w _ env3 => match w with
    | .fz (.int k) => g j k = b ∧ env3 = env2
    | _ => False) fun _ _ => False) ∧ Q (f i j && b) env2
  | _, _ => False) E) E
theorem chain_run {f g : Int → Int → Bool} (hr : okR ra Mb = true) {σ : L2.St} {H : Hp} {Qb : Bool → Hp → Prop} {Qv : VK} (h : tT X.K W ((Ma ++ Mb) ++ Mc) (sChain pa pb pc f g) σ H Qb) (hQ : ∀ b H', Qb b H' → Qv (.bl b) H') :
    tChain (rI0 fun i j => .bl (f i j)) (rI0 fun i j => .bl (g i j)) (tP X.K W Ma ra pa) (tP X.K W Mb rb pb) (tP X.K W Mc rc pc) σ H Qv := by
  obtain ⟨n, ow, env, Q, E, s, hq, k, x⟩ := h
  refine two (Ma := Ma) (Mb := Mb) (E := E) (R := fun t u env2 => match t, u with
    | .fz (.int i), .fz (.int j) => ∃ b : Bool, (f i j = true → pc env2 (fun w _ env3 => match w with
      | .fz (.int k) => g j k = b ∧ env3 = env2
      | _ => False) fun _ _ => False) ∧ Q (f i j && b) env2
    | _, _ => False) hr s hq (fun x' y t u H' ow' env' y1 s' o r1 r2 z => ?_) fun r d H' ow' env' y s' o => x r d H' ow' env' (y.mono subl (Nat.le_refl _)) s' (o.mono subl)
  split at z
  · rename_i i j
    obtain ⟨b', z1, z2⟩ := z
    refine ⟨i, j, r1.int, r2.int, _, rfl, ?_⟩
    have ey := r2.int
    cases e : f i j with
    | false =>
      rw [e] at z2
      rw [if_neg Bool.false_ne_true]
      exact hQ _ _ (k false H' ow' env' (y1.mono subl (Nat.le_refl _)) s' (o.mono subl) z2)
    | true =>
      rw [e] at z2
      rw [if_pos rfl]
      refine ⟨n, ow', env', _, _, s', z1 e, fun v w pt H2 ow2 env2 y2 s2 o2 r3 q3 => ?_, fun r d H' ow' env' y s' o zz ez => ez.elim⟩
      have ro := r3.ro s2
      split at q3
      · rename_i kk
        obtain ⟨q3, rfl⟩ := q3
        refine ⟨j, kk, ey, ro.int, ?_⟩
        show Qv (.bl (g j kk)) H2
        rw [q3]
        exact hQ _ _ (k b' H2 ow2 _ (y1.trans y2 subl subr (Nat.le_refl _) (Nat.le_refl _)) s2 (o.mono subl) z2)
      · exact q3.elim
  · exact z.elim
theorem t_chain {op op' : CmpOp} {f g : Int → Int → Bool} (ho : OpR X (compareOp op) (rI0 fun i j => .bl (f i j))) (ho' : OpR X (compareOp op') (rI0 fun i j => .bl (g i j))) (ha : QP X W Ma ra a pa) (hb : QP X W Mb rb b pb) (hc : QP X W Mc rc c pc)
    (hm : lastMarks [op, op'] [b, c] = false := by with_unfolding_all rfl) (hr : okR ra Mb = true := by decide) : QT X W ((Ma ++ Mb) ++ Mc) (.Compare a [op, op'] [b, c] pos) (sChain pa pb pc f g) :=
  ⟨PT_imp (pt_chain ho ho' ha.run hb.run hc.run hm) fun σ H Qv h => chain_run hr h fun b H' q => ⟨b, rfl, q⟩⟩
theorem q_chain {op op' : CmpOp} {f g : Int → Int → Bool} (ho : OpR X (compareOp op) (rI0 fun i j => .bl (f i j))) (ho' : OpR X (compareOp op') (rI0 fun i j => .bl (g i j))) (ha : QP X W Ma ra a pa) (hb : QP X W Mb rb b pb) (hc : QP X W Mc rc c pc)
    (hm : lastMarks [op, op'] [b, c] = false := by with_unfolding_all rfl) (hr : okR ra Mb = true := by decide) : QE X W ((Ma ++ Mb) ++ Mc) (.Compare a [op, op'] [b, c] pos) (sTV (sChain pa pb pc f g)) :=
  ⟨PE_imp (pe_chain ho ho' ha.run hb.run hc.run hm) fun σ H Qv ⟨n, ow, env, Q, E, s, hq, k, x⟩ => chain_run (Qb := fun b H' => ∃ ow' env', Stp ((Ma ++ Mb) ++ Mc) n H ow H' ow' ∧ StOk X.K H' ow' σ env' ∧ Out ((Ma ++ Mb) ++ Mc) env env' ∧ Q (.fz (.bl b)) env') hr
    ⟨n, ow, env, _, E, s, hq, fun b H' ow' env' y s' o z => ⟨ow', env', y, s', o, z⟩, x⟩ fun b H' ⟨ow', env', y, s', o, z⟩ => k _ _ H' ow' env' y s' o (Tq.fz_.mpr (.bl _)) z⟩
end
end QV

set_option Elab.async false
set_option linter.all false
set_option maxRecDepth 100000
set_option maxHeartbeats 2000000
namespace QV
open PySem L2

structure EndsQ where
  nx : Env → Prop
  rt : T → Env → Prop
  bk : Env → Prop
  ct : Env → Prop
  ex : XQ
abbrev SemS := EndsQ → Env → Prop
def Fs (H : Hp) (ow : Ow) (H' : Hp) (ow' : Ow) : Prop := ∀ a o, H a = some o → (ow a = .fr ∨ ow a = .base) → H' a = some o ∧ ow' a = ow a
def Ios (IO : List Nat) (σ σ' : L2.St) : Prop := ∀ i ∈ IO, σ'[i]? = σ[i]?
section
variable {K : PySem.W.Frag} {H H' H1 H2 : Hp} {ow ow' ow1 ow2 : Ow} {M : List Nat} {n : Nat} {σ σ' σ1 : L2.St} {IO : List Nat}
theorem Stp.fs (x : Stp M n H ow H' ow') : Fs H ow H' ow' := fun a o e q => x a o e (by rcases q with q | q <;> rw [q] <;> trivial)
theorem Fs.refl : Fs H ow H ow := fun _ _ e _ => ⟨e, rfl⟩
theorem Fs.trans (x : Fs H ow H1 ow1) (y : Fs H1 ow1 H2 ow2) : Fs H ow H2 ow2 := fun a o e q => by
  obtain ⟨e1, q1⟩ := x a o e q
  obtain ⟨e2, q2⟩ := y a o e1 (by rw [q1]; exact q)
  exact ⟨e2, q2.trans q1⟩
theorem Fs.bs (x : Fs H ow H' ow') : Same (Bs H ow) (Bs H' ow') := fun a o e => by
  obtain ⟨e1, e2⟩ := bs_some e
  obtain ⟨h1, h2⟩ := x a o e2 (.inr e1)
  rw [bs_of (h2.trans e1)]
  exact h1
theorem Ios.refl : Ios IO σ σ := fun _ _ => rfl
theorem Ios.trans (x : Ios IO σ σ1) (y : Ios IO σ1 σ') : Ios IO σ σ' := fun i h => (y i h).trans (x i h)
end
def Bh (K : PySem.W.Frag) (IO : List Nat) (σ : L2.St) (H : Hp) (ow : Ow) (D : L2.St → Hp → Prop) (De : Env → Prop) : Prop :=
  ∀ (σ' : L2.St) (H' : Hp) (ow' : Ow) (env' : Env), Fs H ow H' ow' → Ios IO σ σ' → StOk K H' ow' σ' env' → De env' → D σ' H'
def BhR (K : PySem.W.Frag) (IO : List Nat) (σ : L2.St) (H : Hp) (ow : Ow) (D : VK) (De : T → Env → Prop) : Prop :=
  ∀ (v : V) (t : T) (σ' : L2.St) (H' : Hp) (ow' : Ow) (env' : Env), Fs H ow H' ow' → Ios IO σ σ' → StOk K H' ow' σ' env' → Tq K H' ow' (.tm 0) v t → De t env' → D v H'
def BhX (K : PySem.W.Frag) (W : WX) (IO : List Nat) (σ : L2.St) (H : Hp) (ow : Ow) (De : XQ) : Prop :=
  ∀ (r : Rz) (d : Option Addr) (σ' : L2.St) (H' : Hp) (ow' : Ow) (env' : Env), Fs H ow H' ow' → Ios IO σ σ' → StOk K H' ow' σ' env' → Rzp K H' ow' d r → De r env' → W (.ref r.C) d σ' H'
structure Bhs (K : PySem.W.Frag) (W : WX) (IO : List Nat) (σ : L2.St) (H : Hp) (ow : Ow) (D : Ends) (De : EndsQ) : Prop where
  nx : Bh K IO σ H ow D.nx De.nx
  rt : BhR K IO σ H ow D.rt De.rt
  bk : Bh K IO σ H ow D.bk De.bk
  ct : Bh K IO σ H ow D.ct De.ct
  ex : BhX K W IO σ H ow De.ex
def tS (K : PySem.W.Frag) (W : WX) (IO : List Nat) (q : SemS) : TS := fun D σ H => ∃ (ow : Ow) (env : Env) (De : EndsQ), StOk K H ow σ env ∧ q De env ∧ Bhs K W IO σ H ow D De
structure QS (X : Cx) (W : WX) (IO : List Nat) (st : Stmt) (q : SemS) : Prop where
  run : PS X st (tS X.K W IO q)
structure QSs (X : Cx) (W : WX) (IO : List Nat) (st : List Stmt) (q : SemS) : Prop where
  run : PSs X st (tS X.K W IO q)
theorem PS_imp {X : Cx} {st : Stmt} {t t' : TS} (h : PS X st t) (f : ∀ D σ H, t' D σ H → t D σ H) : PS X st t' := ⟨fun pins s σ H D I q => h.run pins s σ H D I (f _ _ _ q)⟩
theorem PSs_imp {X : Cx} {st : List Stmt} {t t' : TS} (h : PSs X st t) (f : ∀ D σ H, t' D σ H → t D σ H) : PSs X st t' := ⟨fun pins s σ H D I q => h.run pins s σ H D I (f _ _ _ q)⟩
section
variable {K : PySem.W.Frag} {W : WX} {IO : List Nat} {σ σ1 : L2.St} {H H1 : Hp} {ow ow1 : Ow} {D : Ends} {De : EndsQ}
theorem Bh.step {D : L2.St → Hp → Prop} {De : Env → Prop} (k : Bh K IO σ H ow D De) (x : Fs H ow H1 ow1) (y : Ios IO σ σ1) : Bh K IO σ1 H1 ow1 D De := fun σ' H' ow' env' f i s z => k σ' H' ow' env' (x.trans f) (y.trans i) s z
theorem BhR.step {D : VK} {De : T → Env → Prop} (k : BhR K IO σ H ow D De) (x : Fs H ow H1 ow1) (y : Ios IO σ σ1) : BhR K IO σ1 H1 ow1 D De := fun v t σ' H' ow' env' f i s z => k v t σ' H' ow' env' (x.trans f) (y.trans i) s z
theorem BhX.step {De : XQ} (k : BhX K W IO σ H ow De) (x : Fs H ow H1 ow1) (y : Ios IO σ σ1) : BhX K W IO σ1 H1 ow1 De := fun v t σ' H' ow' env' f i s z => k v t σ' H' ow' env' (x.trans f) (y.trans i) s z
theorem Bhs.step (k : Bhs K W IO σ H ow D De) (x : Fs H ow H1 ow1) (y : Ios IO σ σ1) : Bhs K W IO σ1 H1 ow1 D De := ⟨k.nx.step x y, k.rt.step x y, k.bk.step x y, k.ct.step x y, k.ex.step x y⟩
theorem BhX.xk {M : List Nat} {n : Nat} {env : Env} {E : XQ} (k : BhX K W IO σ H ow E) : Xk K W M σ H n ow env E := fun r d H' ow' env' y s _ z e => k r d σ H' ow' env' y.fs Ios.refl s z e
end

def sSeq (a b : SemS) : SemS := fun D env => a { D with nx := b D } env
def sNext : SemS := fun D env => D.nx env
def sSet (i : Nat) (q : SemE) : SemS := fun D env => q env (fun t env1 => D.nx (env1.set i (some t))) D.ex
def sRet (q : SemE) : SemS := fun D env => q env D.rt D.ex
def sRetN : SemS := fun D env => D.rt (.fz .non) env
def sDrop (q : SemE) : SemS := fun D env => q env (fun _ env1 => D.nx env1) D.ex
def sIfS (t : SemT) (a b : SemS) : SemS := fun D env => t env (fun c env1 => (c = true → a D env1) ∧ (c = false → b D env1)) D.ex
def sBreak : SemS := fun D env => D.bk env
def sCont : SemS := fun D env => D.ct env
def sNever : SemS := fun _ _ => False
inductive CutG (q : SemS) (D : EndsQ) (env : Env) : Prop
  | mk (h : ∃ R : Env → Prop, q { D with nx := R } env ∧ ∀ env', R env' → D.nx env')
  | no (h : False)
theorem CutG.ex {q : SemS} {D : EndsQ} {env : Env} : CutG q D env → ∃ R : Env → Prop, q { D with nx := R } env ∧ ∀ env', R env' → D.nx env'
  | .mk h => h
  | .no h => h.elim
def sCut (q : SemS) : SemS := fun D env => CutG q D env
theorem StOk.set {K : PySem.W.Frag} {H : Hp} {ow : Ow} {σ : L2.St} {env : Env} {i : Nat} {v : V} {t : T} (s : StOk K H ow σ env) (h : Tq K H ow (.sl i) v t) : StOk K H ow (σ.set i (some v)) (env.set i (some t)) := ⟨by rw [List.length_set, List.length_set]; exact s.len, fun j u e => by
  by_cases hj : i = j
  · subst hj
    have hl : i < env.length := by
      refine Nat.lt_of_not_le fun z => ?_
      rw [List.getElem?_eq_none (by simpa using z)] at e
      cases e
    rw [List.getElem?_set_self hl] at e
    cases e
    exact ⟨v, List.getElem?_set_self (by rw [← s.len]; exact hl), h⟩
  · rw [List.getElem?_set_ne hj] at e
    obtain ⟨w, e1, q⟩ := s.at_ j u e
    exact ⟨w, by rw [List.getElem?_set_ne hj]; exact e1, q⟩⟩
section
variable {X : Cx} {W : WX} {IO M : List Nat} {e : Expr} {q : SemE} {st : Stmt} {rest : List Stmt} {a b : SemS} {pos pos' : Pos}
theorem ss_nil : QSs X W IO [] sNext := ⟨PSs_imp pss_nil fun D σ H ⟨ow, env, De, s, hq, k⟩ => k.nx σ H ow env Fs.refl Ios.refl s hq⟩
theorem seq_run {K : PySem.W.Frag} {t u : TS} {a b : SemS} {D : Ends} {σ : L2.St} {H : Hp} (h : tS K W IO (sSeq a b) D σ H) (f1 : ∀ D, tS K W IO a D σ H → t D σ H) (f2 : ∀ σ' H', tS K W IO b D σ' H' → u D σ' H') : tSeq t u D σ H := by
  obtain ⟨ow, env, De, s, hq, k⟩ := h
  exact f1 _ ⟨ow, env, _, s, hq, ⟨fun σ' H' ow' env' x y s' z => f2 σ' H' ⟨ow', env', De, s', z, k.step x y⟩, k.rt, k.bk, k.ct, k.ex⟩⟩
theorem ss_cons (h1 : QS X W IO st a) (h2 : QSs X W IO rest b) : QSs X W IO (st :: rest) (sSeq a b) := ⟨PSs_imp (pss_cons h1.run h2.run) fun _ _ _ h => seq_run h (fun _ z => z) fun _ _ z => z⟩
theorem ss_one (h1 : QS X W IO st a) : QSs X W IO [st] a := ⟨pss_one h1.run⟩
theorem s_pass : QS X W IO (.Pass pos) sNext := ⟨PS_imp ps_pass fun D σ H ⟨ow, env, De, s, hq, k⟩ => k.nx σ H ow env Fs.refl Ios.refl s hq⟩
theorem s_break : QS X W IO (.Break pos) sBreak := ⟨PS_imp ps_break fun D σ H ⟨ow, env, De, s, hq, k⟩ => k.bk σ H ow env Fs.refl Ios.refl s hq⟩
theorem s_continue : QS X W IO (.Continue pos) sCont := ⟨PS_imp ps_continue fun D σ H ⟨ow, env, De, s, hq, k⟩ => k.ct σ H ow env Fs.refl Ios.refl s hq⟩
theorem s_doc {x : Str} {j} : QS X W IO (.Expr (.Constant (.str x) j pos) pos') sNext := ⟨PS_imp ps_doc fun D σ H ⟨ow, env, De, s, hq, k⟩ => k.nx σ H ow env Fs.refl Ios.refl s hq⟩
theorem s_never : QS X W IO st sNever := ⟨PS_imp ps_never fun D σ H ⟨_, _, _, _, hq, _⟩ => hq⟩
theorem ss_never {sts : List Stmt} : QSs X W IO sts sNever := ⟨PSs_imp pss_never fun D σ H ⟨_, _, _, _, hq, _⟩ => hq⟩
theorem s_expr (he : QE X W M e q) (hs : swapsWith e none pos.line X.env = pure false := by rfl) : QS X W IO (.Expr e pos) (sDrop q) := ⟨PS_imp (ps_expr he.run hs) fun D σ H ⟨ow, env, De, s, hq, k⟩ =>
  ⟨0, ow, env, _, De.ex, s, hq, fun v t H' ow' env' y s' _ r z => k.nx σ H' ow' env' y.fs Ios.refl s' z, k.ex.xk⟩⟩
theorem s_ret (he : QE X W M e q) : QS X W IO (.Return (some e) pos) (sRet q) := ⟨PS_imp (ps_ret he.run) fun D σ H ⟨ow, env, De, s, hq, k⟩ =>
  ⟨0, ow, env, _, De.ex, s, hq, fun v t H' ow' env' y s' _ r z => k.rt v t σ H' ow' env' y.fs Ios.refl s' r z, k.ex.xk⟩⟩
theorem s_retN : QS X W IO (.Return none pos) sRetN := ⟨PS_imp ps_retN fun D σ H ⟨ow, env, De, s, hq, k⟩ => k.rt .non (.fz .non) σ H ow env Fs.refl Ios.refl s (Tq.fz_.mpr .non) hq⟩
theorem s_if {c : Expr} {sa sb : List Stmt} {tc : SemT} (hc : QT X W M c tc) (ha : QSs X W IO sa a) (hb : QSs X W IO sb b) : QS X W IO (.If c sa sb pos) (sIfS tc a b) := ⟨PS_imp (ps_if hc.run ha.run hb.run) fun D σ H ⟨ow, env, De, s, hq, k⟩ =>
  ⟨0, ow, env, _, De.ex, s, hq, fun d H' ow' env' y s' _ z => by
    cases d with
    | true => rw [if_pos rfl]; exact ⟨ow', env', De, s', z.1 rfl, k.step y.fs Ios.refl⟩
    | false => rw [if_neg Bool.false_ne_true]; exact ⟨ow', env', De, s', z.2 rfl, k.step y.fs Ios.refl⟩, k.ex.xk⟩⟩
theorem QS.cut (h : QS X W IO st a) : QS X W IO st (sCut a) := ⟨PS_imp h.run fun D σ H ⟨ow, env, De, s, hG, k⟩ =>
  have ⟨R, hq, hR⟩ := hG.ex
  ⟨ow, env, { De with nx := R }, s, hq, ⟨fun σ' H' ow' env' x y s' z => k.nx σ' H' ow' env' x y s' (hR _ z), k.rt, k.bk, k.ct, k.ex⟩⟩⟩
theorem into_slot {K : PySem.W.Frag} {H : Hp} {ow : Ow} {σ : L2.St} {env : Env} {i : Nat} {v : V} {t : T} (s : StOk K H ow σ env) (r : Tq K H ow (.tm 0) v t) : Stp [] 0 H ow H (Ow.mv ow (.tm 0) (.sl i)) ∧ StOk K H (Ow.mv ow (.tm 0) (.sl i)) (σ.set i (some v)) (env.set i (some t)) :=
  have y : Stp [] 0 H ow H (Ow.mv ow (.tm 0) (.sl i)) := Stp.mv not_tm
  ⟨y, (s.stp0 y).set (r.mv fun z => nomatch z)⟩
theorem ios_set {IO : List Nat} {σ : L2.St} {i : Nat} {v : Option V} (h : i ∉ IO) : Ios IO σ (σ.set i v) := fun j hj => List.getElem?_set_ne fun z => h (by rw [z]; exact hj)
theorem s_set (i : Nat) {x : Str} (he : QE X W M e q) (hN : X.N.Nodup) (hi : X.N[i]? = some x := by rfl) (hx : Loc X.env.scope x := by first | exact Or.inl rfl | exact Or.inr rfl) (hio : i ∉ IO := by decide)
    (hs : swapsWith e (some (.Name x pos')) pos.line X.env = pure false := by rfl) (hf : X.fn x = true ∨ X.env.scope.names.lookup x = some .local := by first | exact .inl rfl | exact .inr rfl) : QS X W IO (.Assign [.Name x pos'] e pos) (sSet i q) :=
  ⟨PS_imp (ps_set (i := i) hN hi hx he.run hs hf) fun D σ H ⟨ow, env, De, s, hq, k⟩ => ⟨0, ow, env, _, De.ex, s, hq, fun v t H' ow' env' y s' _ r z =>
    have ⟨y2, s2⟩ := into_slot s' r
    k.nx _ _ _ _ (y.fs.trans y2.fs) (ios_set hio) s2 z, k.ex.xk⟩⟩
end
end QV

set_option Elab.async false
set_option linter.all false
set_option maxRecDepth 100000
set_option maxHeartbeats 2000000
namespace QV
open PySem L2

structure Tch (SS : List Nat) (σ σ' : L2.St) : Prop where
  len : σ'.length = σ.length
  eq : ∀ i, i ∉ SS → σ'[i]? = σ[i]?
theorem Tch.refl {SS : List Nat} {σ : L2.St} : Tch SS σ σ := ⟨rfl, fun _ _ => rfl⟩
theorem Tch.trans {S1 S2 S3 : List Nat} {σ σ1 σ2 : L2.St} (x : Tch S1 σ σ1) (y : Tch S2 σ1 σ2) (h1 : ∀ i ∈ S1, i ∈ S3) (h2 : ∀ i ∈ S2, i ∈ S3) : Tch S3 σ σ2 := ⟨y.len.trans x.len, fun i hi => (y.eq i fun z => hi (h2 i z)).trans (x.eq i fun z => hi (h1 i z))⟩
theorem Tch.ios {SS IO : List Nat} {σ σ' : L2.St} (x : Tch SS σ σ') (h : ∀ i ∈ IO, i ∉ SS) : Ios IO σ σ' := fun i hi => x.eq i (h i hi)
abbrev SemG := D → Env → (Env → Prop) → Prop
abbrev SemGs := List D → Env → (Env → Prop) → Prop
def tG (K : PySem.W.Frag) (SS : List Nat) (g : SemG) : TG := fun v σ H Q => ∃ (ow : Ow) (env : Env) (d : D) (k : Env → Prop), StOk K H ow σ env ∧ Rp K (Bs H ow) v d ∧ g d env k ∧
  ∀ σ' env', Tch SS σ σ' → Out SS env env' → StOk K H ow σ' env' → k env' → Q σ' H
def tGs (K : PySem.W.Frag) (SS : List Nat) (g : SemGs) : TGs := fun vs σ H Q => ∃ (ow : Ow) (env : Env) (ds : List D) (k : Env → Prop), StOk K H ow σ env ∧ Rps K (Bs H ow) vs ds ∧ g ds env k ∧
  ∀ σ' env', Tch SS σ σ' → Out SS env env' → StOk K H ow σ' env' → k env' → Q σ' H
structure QG (X : Cx) (SS : List Nat) (tg : Expr) (g : SemG) : Prop where
  run : PG X tg (tG X.K SS g)
structure QGs (X : Cx) (SS : List Nat) (tg : List Expr) (g : SemGs) : Prop where
  run : PGs X tg (tGs X.K SS g)
theorem PG_imp {X : Cx} {e : Expr} {t t' : TG} (h : PG X e t) (f : ∀ v σ H Q, t' v σ H Q → t v σ H Q) : PG X e t' := ⟨fun pins s σ H v u Q I r q => h.run pins s σ H v u Q I r (f _ _ _ _ q)⟩
theorem PGs_imp {X : Cx} {e : List Expr} {t t' : TGs} (h : PGs X e t) (f : ∀ v σ H Q, t' v σ H Q → t v σ H Q) : PGs X e t' := ⟨fun pins s σ H v u Q I r q => h.run pins s σ H v u Q I r (f _ _ _ _ q)⟩
def gN (i : Nat) : SemG := fun d env k => k (env.set i (some (.fz d)))
def gNil0 : SemGs := fun ds env k => match ds with
  | [] => k env
  | _ => False
def gCons0 (g : SemG) (gs : SemGs) : SemGs := fun ds env k => match ds with
  | d :: ds => g d env fun env' => gs ds env' k
  | _ => False
def gTup0 (n : Nat) (gs : SemGs) : SemG := fun d env k => match d with
  | .nd .tup ds => ds.length = n ∧ gs ds env k
  | _ => False
section
variable {X : Cx} {SS S1 S2 IO : List Nat} {e : Expr} {es : List Expr} {g : SemG} {gs : SemGs} {pos : Pos}
theorem g_name (i : Nat) {x : Str} (hN : X.N.Nodup) (hi : X.N[i]? = some x := by rfl) (hx : Loc X.env.scope x := by first | exact Or.inl rfl | exact Or.inr rfl) (hf : X.fn x = true ∨ X.env.scope.names.lookup x = some .local := by first | exact .inl rfl | exact .inr rfl) : QG X [i] (.Name x pos) (gN i) :=
  ⟨PG_imp (pg_name (i := i) hN hi hx hf) fun v σ H Q ⟨ow, env, d, k, s, r, hq, h⟩ => h _ _ ⟨List.length_set, fun j hj => List.getElem?_set_ne fun z => hj (by simp [z])⟩ Out.set1 (s.set (Tq.fz_.mpr r)) hq⟩
theorem gs_nil : QGs X [] [] gNil0 := ⟨PGs_imp pgs_nil fun vs σ H Q ⟨ow, env, ds, k, s, r, hq, h⟩ => by
  cases r with
  | nil => exact ⟨rfl, h _ _ Tch.refl Out.refl s hq⟩
  | cons _ _ => exact hq.elim⟩
theorem gs_cons (h1 : QG X S1 e g) (h2 : QGs X S2 es gs) (hs : (assignEach (e :: es) X.env).map (·.2) = assign e X.env :: (assignEach es X.env).map (·.2) := by rfl) : QGs X (S1 ++ S2) (e :: es) (gCons0 g gs) := ⟨PGs_imp (pgs_cons h1.run h2.run hs) fun vs σ H Q ⟨ow, env, ds, k, s, r, hq, h⟩ => by
  cases r with
  | nil => exact hq.elim
  | cons r1 r2 => exact ⟨_, _, rfl, ow, env, _, _, s, r1, hq, fun σ' env' i1 o1 s1 z => ⟨ow, env', _, k, s1, r2, z, fun σ2 env2 i2 o2 s2 z2 => h σ2 env2 (i1.trans i2 subl subr) (o1.trans o2 subl subr) s2 z2⟩⟩⟩
theorem g_tup {k : Nat} {n : Nat} (hc : X.calm = true) (h : QGs X SS es gs) (hn : (assignEach es X.env).length = n := by rfl) (hst : (assignEach es X.env).findIdx? (·.1) = none := by rfl) : QG X SS (.Tuple es k pos) (gTup0 n gs) := ⟨PG_imp (pg_tup hc h.run hn hst) fun v σ H Q ⟨ow, env, d, k, s, r, hq, h⟩ => by
  unfold gTup0 at hq
  split at hq
  · cases r with
    | tup c z r => exact ⟨_, _, rfl, sqT_of (bs_same H ow _ _ c), by rw [r.len]; exact hq.1, ow, env, _, k, s, r, hq.2, h⟩
    | cell hn _ _ => exact absurd rfl hn
  · exact hq.elim⟩
def sAsgT (q : SemE) (g : SemG) : SemS := fun D env => q env (fun t env1 => match t with
  | .fz d => g d env1 D.nx
  | _ => False) D.ex
theorem s_asgT {W : WX} {M : List Nat} {tg : Expr} {q : SemE} (he : QE X W M e q) (hg : QG X SS tg g) (hio : ∀ i ∈ IO, i ∉ SS := by decide) (hs : swapsWithSole [tg] e pos.line X.env = pure false := by rfl) (hw : swappedStores [tg] e X.env = pure none := by rfl)
    (h1 : (assignEach [tg] X.env).map (·.2) = [assign tg X.env] := by rfl) : QS X W IO (.Assign [tg] e pos) (sAsgT q g) := ⟨PS_imp (ps_asg he.run hg.run hs hw h1) fun D σ H ⟨ow, env, De, s, hq, k⟩ =>
  ⟨0, ow, env, _, De.ex, s, hq, fun v t H' ow' env' y s' _ r z => by
    split at z
    · exact ⟨ow', env', _, _, s', Tq.fz_.mp r, z, fun σ2 env2 i2 _ s2 z2 => k.nx _ _ _ _ y.fs (i2.ios hio) s2 z2⟩
    · exact z.elim, k.ex.xk⟩⟩
end

def Ext (H : Hp) (ow : Ow) (H' : Hp) (ow' : Ow) : Prop := ∀ a o, H a = some o → H' a = some o ∧ ow' a = ow a
theorem Ext.refl {H : Hp} {ow : Ow} : Ext H ow H ow := fun _ _ e => ⟨e, rfl⟩
theorem Ext.stp {M : List Nat} {n : Nat} {H H' : Hp} {ow ow' : Ow} (x : Ext H ow H' ow') : Stp M n H ow H' ow' := fun a o e _ => x a o e
theorem Ext.new {H : Hp} {ow : Ow} {p : Addr} {o : HO} {l : Lab} (h : H p = none) : Ext H ow (upd H p o) (Ow.put ow p l) := fun a u e => by
  have ne := ne_of_none e h
  exact ⟨by rw [upd_ne ne]; exact e, put_ne ne⟩
structure ItD (K : PySem.W.Frag) (H : Hp) (ow : Ow) (J : It) (ds : List D) : Prop where
  go : ∀ (i : Nat) (d : D) (H' : Hp) (ow' : Ow), Fs H ow H' ow' → ds[i]? = some d → J.go i H'
  yld : ∀ (i : Nat) (d : D) (H' : Hp) (ow' : Ow) (x : V) (H2 : Hp), Fs H ow H' ow' → ds[i]? = some d → J.yld i H' x H2 → ∃ ow2, Ext H' ow' H2 ow2 ∧ Rp K (Bs H2 ow2) x d
  stop : ∀ (H' : Hp) (ow' : Ow), Fs H ow H' ow' → J.stop ds.length H'
  sz : ds.length ≤ sizeLine
abbrev SemI := Env → (List D → Env → Prop) → XQ → Prop
def tI (K : PySem.W.Frag) (W : WX) (M : List Nat) (q : SemI) : TI := fun σ H R => ∃ (n : Nat) (ow : Ow) (env : Env) (Q : List D → Env → Prop) (E : XQ), StOk K H ow σ env ∧ q env Q E ∧
  (∀ (J : It) (ds : List D) (H' : Hp) (ow' : Ow) (env' : Env), Stp M n H ow H' ow' → StOk K H' ow' σ env' → Out M env env' → ItD K H' ow' J ds → Q ds env' → R J H') ∧ Xk K W M σ H n ow env E
structure QI (X : Cx) (W : WX) (M : List Nat) (tg e : Expr) (q : SemI) : Prop where
  run : PI X tg e (tI X.K W M q)
theorem PI_imp {X : Cx} {tg e : Expr} {t t' : TI} (h : PI X tg e t) (f : ∀ σ H R, t' σ H R → t σ H R) : PI X tg e t' := ⟨fun pins s σ H R I q => h.run pins s σ H R I (f _ _ _ q)⟩
section
variable {K : PySem.W.Frag} {H : Hp} {ow : Ow}
theorem itd_list {a : Addr} {vs : List V} {ds : List D} (h : SqL K (Bs H ow) a vs) (hz : vs.length ≤ sizeLine) (r : Rps K (Bs H ow) vs ds) : ItD K H ow (Itl K a) ds := by
  have st : ∀ {H' : Hp} {ow' : Ow}, Fs H ow H' ow' → SqL K H' a vs := fun x => ((bs_same _ _).seq (x.bs.seq h))
  refine ⟨fun i d H' ow' x e => ?_, fun i d H' ow' y H2 x e q => ?_, fun H' ow' x => ⟨vs, st x, Nat.le_of_eq r.len⟩, by rw [← r.len]; exact hz⟩
  · obtain ⟨v, e1, _⟩ := r.get e
    exact ⟨vs, v, st x, e1⟩
  · obtain ⟨rfl, hy⟩ := q
    obtain ⟨v, e1, r1⟩ := r.get e
    have ev := hy vs (st x)
    rw [e1] at ev
    cases ev
    exact ⟨ow', Ext.refl, r1.mono x.bs⟩
theorem itd_tup {a : Addr} {vs : List V} {ds : List D} (h : SqT K (Bs H ow) a vs) (hz : vs.length ≤ sizeLine) (r : Rps K (Bs H ow) vs ds) : ItD K H ow (Itt K a) ds := by
  have st : ∀ {H' : Hp} {ow' : Ow}, Fs H ow H' ow' → SqT K H' a vs := fun x => (sqT_mono (bs_same _ _) (sqT_mono x.bs h))
  refine ⟨fun i d H' ow' x e => ?_, fun i d H' ow' y H2 x e q => ?_, fun H' ow' x => ⟨vs, st x, Nat.le_of_eq r.len⟩, by rw [← r.len]; exact hz⟩
  · obtain ⟨v, e1, _⟩ := r.get e
    exact ⟨vs, v, st x, e1⟩
  · obtain ⟨rfl, hy⟩ := q
    obtain ⟨v, e1, r1⟩ := r.get e
    have ev := hy vs (st x)
    rw [e1] at ev
    cases ev
    exact ⟨ow', Ext.refl, r1.mono x.bs⟩
def rngD (lo : Int) (n : Nat) : List D := (List.range n).map fun k => D.int (lo + (k : Nat))
theorem rngD_len {lo : Int} {n : Nat} : (rngD lo n).length = n := by unfold rngD; rw [List.length_map, List.length_range]
theorem rngD_get {lo : Int} {n i : Nat} {d : D} (h : (rngD lo n)[i]? = some d) : i < n ∧ d = .int (lo + (i : Nat)) := by
  unfold rngD at h
  rw [List.getElem?_map] at h
  by_cases hi : i < n
  · rw [List.getElem?_range hi] at h
    cases h
    exact ⟨hi, rfl⟩
  · rw [List.getElem?_eq_none (by simpa using hi)] at h
    cases h
theorem itd_rng {lo : Int} {n : Nat} (hz : n ≤ sizeLine) : ItD K H ow (Itr lo n) (rngD lo n) :=
  ⟨fun i d H' ow' x e => (rngD_get e).1, fun i d H' ow' y H2 x e q => by
    obtain ⟨rfl, rfl⟩ := q
    rw [(rngD_get e).2]
    exact ⟨ow', Ext.refl, .int _⟩, fun H' ow' x => Nat.le_of_eq rngD_len.symm, by rw [rngD_len]; exact hz⟩
def enumD (ds : List D) : List D := (List.range ds.length).zipWith (fun k d => D.nd .tup [.int (k : Nat), d]) ds
theorem enumD_get {ds : List D} {i : Nat} {d : D} (h : (enumD ds)[i]? = some d) : ∃ e, ds[i]? = some e ∧ d = .nd .tup [.int (i : Nat), e] := by
  unfold enumD at h
  rw [List.getElem?_zipWith] at h
  cases e : ds[i]? with
  | none => rw [e] at h; split at h <;> simp_all
  | some y =>
    have hi : i < ds.length := (List.getElem?_eq_some_iff.mp e).1
    rw [e, List.getElem?_range hi] at h
    cases h
    exact ⟨y, rfl, rfl⟩
theorem enumD_len {ds : List D} : (enumD ds).length = ds.length := by unfold enumD; rw [List.length_zipWith, List.length_range, Nat.min_self]
theorem itd_enum {a : Addr} {vs : List V} {ds : List D} (h : SqL K (Bs H ow) a vs) (hz : vs.length ≤ sizeLine) (r : Rps K (Bs H ow) vs ds) : ItD K H ow (Ite K a) (enumD ds) := by
  have st : ∀ {H' : Hp} {ow' : Ow}, Fs H ow H' ow' → SqL K H' a vs := fun x => ((bs_same _ _).seq (x.bs.seq h))
  refine ⟨fun i d H' ow' x e => ?_, fun i d H' ow' y H2 x e q => ?_, fun H' ow' x => ⟨vs, st x, by rw [enumD_len]; exact Nat.le_of_eq r.len⟩, by rw [enumD_len, ← r.len]; exact hz⟩
  · obtain ⟨e', e1, _⟩ := enumD_get e
    obtain ⟨v, e2, _⟩ := r.get e1
    exact ⟨vs, v, st x, e2⟩
  · obtain ⟨Tt, v, rfl, hn, rfl, hy⟩ := q
    obtain ⟨e', e1, rfl⟩ := enumD_get e
    obtain ⟨w, e2, r1⟩ := r.get e1
    have ev := hy vs (st x)
    rw [e2] at ev
    cases ev
    have y : Ext H' ow' (upd H' Tt (.tup [.int (i : Nat), v])) (Ow.put ow' Tt .base) := Ext.new hn
    refine ⟨_, y, .tup ?_ (by show 2 ≤ sizeLine; decide) (.cons (.int _) (.cons (r1.mono ?_) .nil))⟩
    · rw [bs_of put_same, upd_same]
    · intro b o eb
      exact (y.stp (M := []) (n := 0)).bs b o (x.bs b o eb)
def zipD (ds es : List D) : List D := ds.zipWith (fun d e => D.nd .tup [d, e]) es
theorem zipD_get {ds es : List D} {i : Nat} {d : D} (h : (zipD ds es)[i]? = some d) : ∃ x y, ds[i]? = some x ∧ es[i]? = some y ∧ d = .nd .tup [x, y] := by
  unfold zipD at h
  rw [List.getElem?_zipWith] at h
  cases e1 : ds[i]? <;> cases e2 : es[i]? <;> rw [e1, e2] at h <;> simp at h
  exact ⟨_, _, rfl, rfl, h.symm⟩
theorem zipD_len {ds es : List D} : (zipD ds es).length = min ds.length es.length := by unfold zipD; rw [List.length_zipWith]
theorem itd_zip {a b : Addr} {vs ws : List V} {ds es : List D} (h : SqL K (Bs H ow) a vs) (h' : SqL K (Bs H ow) b ws) (hz : vs.length ≤ sizeLine) (r : Rps K (Bs H ow) vs ds) (r' : Rps K (Bs H ow) ws es) : ItD K H ow (Itz K a b) (zipD ds es) := by
  have st : ∀ {H' : Hp} {ow' : Ow}, Fs H ow H' ow' → SqL K H' a vs := fun x => ((bs_same _ _).seq (x.bs.seq h))
  have st' : ∀ {H' : Hp} {ow' : Ow}, Fs H ow H' ow' → SqL K H' b ws := fun x => ((bs_same _ _).seq (x.bs.seq h'))
  refine ⟨fun i d H' ow' x e => ?_, fun i d H' ow' y H2 x e q => ?_, fun H' ow' x => ⟨vs, ws, st x, st' x, ?_⟩, ?_⟩
  · obtain ⟨x1, y1, e1, e2, _⟩ := zipD_get e
    obtain ⟨v, f1, _⟩ := r.get e1
    obtain ⟨w, f2, _⟩ := r'.get e2
    exact ⟨vs, ws, v, w, st x, st' x, f1, f2⟩
  · obtain ⟨Tt, v, w, rfl, hn, rfl, hy, hy'⟩ := q
    obtain ⟨x1, y1, e1, e2, rfl⟩ := zipD_get e
    obtain ⟨v1, f1, r1⟩ := r.get e1
    obtain ⟨w1, f2, r2⟩ := r'.get e2
    have ev := hy vs (st x)
    rw [f1] at ev
    cases ev
    have ew := hy' ws (st' x)
    rw [f2] at ew
    cases ew
    have y : Ext H' ow' (upd H' Tt (.tup [v, w])) (Ow.put ow' Tt .base) := Ext.new hn
    have mo : Same (Bs H ow) (Bs (upd H' Tt (.tup [v, w])) (Ow.put ow' Tt .base)) := fun b o eb => (y.stp (M := []) (n := 0)).bs b o (x.bs b o eb)
    refine ⟨_, y, .tup ?_ (by show 2 ≤ sizeLine; decide) (.cons (r1.mono mo) (.cons (r2.mono mo) .nil))⟩
    rw [bs_of put_same, upd_same]
  · rw [zipD_len, ← r.len, ← r'.len]; omega
  · rw [zipD_len, ← r.len]; omega
theorem itd_rev {a : Addr} {vs : List V} {ds : List D} (h : SqL K (Bs H ow) a vs) (hz : vs.length ≤ sizeLine) (r : Rps K (Bs H ow) vs ds) : ItD K H ow (Itv K a vs.length) ds.reverse := by
  have st : ∀ {H' : Hp} {ow' : Ow}, Fs H ow H' ow' → SqL K H' a vs := fun x => ((bs_same _ _).seq (x.bs.seq h))
  have len := r.len
  have g : ∀ {i : Nat} {d : D}, ds.reverse[i]? = some d → i < vs.length ∧ ∃ v, vs[vs.length - 1 - i]? = some v ∧ Rp K (Bs H ow) v d := fun {i d} e => by
    have hi : i < ds.length := by have := (List.getElem?_eq_some_iff.mp e).1; simpa using this
    rw [List.getElem?_reverse hi] at e
    obtain ⟨v, e1, r1⟩ := r.get e
    exact ⟨by omega, v, by rw [len]; exact e1, r1⟩
  refine ⟨fun i d H' ow' x e => ?_, fun i d H' ow' y H2 x e q => ?_, fun H' ow' x => by show vs.length ≤ _; rw [List.length_reverse]; omega, by rw [List.length_reverse, ← len]; exact hz⟩
  · obtain ⟨h1, v, e1, _⟩ := g e
    exact ⟨h1, vs, v, st x, e1⟩
  · obtain ⟨rfl, hy⟩ := q
    obtain ⟨h1, v, e1, r1⟩ := g e
    have ev := hy vs (st x)
    rw [e1] at ev
    cases ev
    exact ⟨ow', Ext.refl, r1.mono x.bs⟩
def sgnD (x : Str) : List D := x.cps.toList.map fun c => D.str ⟨#[c]⟩
theorem itd_str {x : Str} (hz : x.length ≤ sizeLine) : ItD K H ow (Its x) (sgnD x) := by
  have len : (sgnD x).length = x.cps.size := by unfold sgnD; rw [List.length_map, Array.length_toList]
  refine ⟨fun i d H' ow' _ e => ?_, fun i d H' ow' y H2 _ e q => ?_, fun H' ow' _ => by show x.cps.size ≤ _; omega, by rw [len]; exact hz⟩
  · have := (List.getElem?_eq_some_iff.mp e).1
    show i < x.cps.size
    omega
  · obtain ⟨rfl, c, e1, rfl⟩ := q
    unfold sgnD at e
    rw [List.getElem?_map, Array.getElem?_toList, e1] at e
    cases e
    exact ⟨ow', Ext.refl, .str _⟩
end
section
variable {X : Cx} {W : WX} {M Ma Mb : List Nat} {e a b tg : Expr} {q qa qb : SemE} {p pos : Pos}
def iSeq (q : SemE) (f : List D → List D) : SemI := fun env Q E => q env (fun t env1 => match t with
  | .fz (.nd .lst ds) => Q (f ds) env1
  | _ => False) E
def iSeqT (q : SemE) : SemI := fun env Q E => q env (fun t env1 => match t with
  | .fz (.nd .tup ds) => Q ds env1
  | _ => False) E
theorem fz_lst {K : PySem.W.Frag} {H : Hp} {ow : Ow} {l : Lab} {v : V} {ds : List D} (r : Tq K H ow l v (.fz (.nd .lst ds))) : ∃ a vs, v = .ref a ∧ SqL K (Bs H ow) a vs ∧ vs.length ≤ sizeLine ∧ Rps K (Bs H ow) vs ds := by
  cases Tq.fz_.mp r with
  | cell _ c r => exact ⟨_, _, rfl, .inl (.inl c.at_), c.sz, r⟩
theorem fz_tup {K : PySem.W.Frag} {H : Hp} {ow : Ow} {l : Lab} {v : V} {ds : List D} (r : Tq K H ow l v (.fz (.nd .tup ds))) : ∃ a vs, v = .ref a ∧ SqT K (Bs H ow) a vs ∧ vs.length ≤ sizeLine ∧ Rps K (Bs H ow) vs ds := by
  cases Tq.fz_.mp r with
  | tup c z r => exact ⟨_, _, rfl, sqT_of c, z, r⟩
  | cell hn _ _ => exact absurd rfl hn
theorem i_list (h : QE X W M e q) : QI X W M tg e (iSeq q id) := ⟨PI_imp (pi_list h.run) fun σ H R ⟨n, ow, env, Q, E, s, hq, k, x⟩ => ⟨n, ow, env, _, E, s, hq, fun v t H' ow' env' y s' o r z => by
  split at z
  · obtain ⟨a, vs, rfl, c, hz, r⟩ := fz_lst r
    exact ⟨a, rfl, ⟨vs, (bs_same _ _).seq c⟩, k _ _ H' ow' env' y s' o (itd_list c hz r) z⟩
  · exact z.elim, x⟩⟩
theorem i_tup (h : QE X W M e q) : QI X W M tg e (iSeqT q) := ⟨PI_imp (pi_tup h.run) fun σ H R ⟨n, ow, env, Q, E, s, hq, k, x⟩ => ⟨n, ow, env, _, E, s, hq, fun v t H' ow' env' y s' o r z => by
  split at z
  · obtain ⟨a, vs, rfl, c, hz, r⟩ := fz_tup r
    exact ⟨a, rfl, ⟨vs, sqT_mono (bs_same _ _) c⟩, k _ _ H' ow' env' y s' o (itd_tup c hz r) z⟩
  · exact z.elim, x⟩⟩
def iStr0 (q : SemE) : SemI := fun env Q E => q env (fun t env1 => match t with
  | .fz (.str x) => x.length ≤ sizeLine ∧ Q (sgnD x) env1
  | _ => False) E
theorem i_str (h : QE X W M e q) : QI X W M tg e (iStr0 q) := ⟨PI_imp (pi_str h.run) fun σ H R ⟨n, ow, env, Q, E, s, hq, k, x⟩ => ⟨n, ow, env, _, E, s, hq, fun v t H' ow' env' y s' o r z => by
  split at z
  · have := Tq.rd r
    cases this
    exact ⟨_, rfl, k _ _ H' ow' env' y s' o (itd_str z.1) z.2⟩
  · exact z.elim, x⟩⟩
theorem PA_imp {es : List Expr} {t t' : TA} (h : PA X es t) (f : ∀ σ H Q, t' σ H Q → t σ H Q) : PA X es t' := ⟨fun pos pins s σ H Q I q => h.run pos pins s σ H Q I (f _ _ _ q)⟩
def iRng (q : SemE) : SemI := fun env Q E => q env (fun t env1 => match t with
  | .fz (.int n) => n ≤ sizeLine ∧ -(2 ^ 62) ≤ n ∧ Q (rngD 0 n.toNat) env1
  | _ => False) E
theorem line62 : (sizeLine : Int) < 2 ^ 62 := by rw [sizeLine_eq]; decide
theorem i_rng (hg : Gl X "range") (hm : X.mg "range" = none) (h : QE X W M e q) (hs : starEach [e] X.env = [(false, eval e X.env)] := by rfl) : QI X W M tg (.Call (.Name "range" p) [e] [] pos) (iRng q) :=
  ⟨PI_imp (pi_range1 hg hm (pa_cons h.run pa_nil hs) hs) fun σ H R ⟨n, ow, env, Q, E, s, hq, k, x⟩ => ⟨n, ow, env, _, E, s, hq, fun v t H' ow' env' y s' o r z => by
    split at z
    · rename_i m
      have := Tq.rd r
      cases this
      have l62 := line62
      exact ⟨m, rfl, by omega, by omega, k _ _ H' ow' env' y s' o (itd_rng (by omega)) z.2.2⟩
    · exact z.elim, x⟩⟩
def iRng2 (qa qb : SemE) : SemI := fun env Q E => qa env (fun t env1 => qb env1 (fun u env2 => match t, u with
  | .fz (.int i), .fz (.int j) => -(2 ^ 62) ≤ i ∧ i < 2 ^ 62 ∧ -(2 ^ 62) ≤ j ∧ j < 2 ^ 62 ∧ j - i ≤ sizeLine ∧ Q (rngD i (j - i).toNat) env2
  | _, _ => False) E) E
theorem i_rng2 (hg : Gl X "range") (hm : X.mg "range" = none) (ha : QE X W Ma a qa) (hb : QE X W Mb b qb) (hs : starEach [a, b] X.env = [(false, eval a X.env), (false, eval b X.env)] := by rfl) (hs2 : starEach [b] X.env = [(false, eval b X.env)] := by rfl) :
    QI X W (Ma ++ Mb) tg (.Call (.Name "range" p) [a, b] [] pos) (iRng2 qa qb) :=
  ⟨PI_imp (pi_range2 hg hm (pa_cons ha.run (pa_cons hb.run pa_nil (by rw [hs2]; rfl)) (by rw [hs, hs2])) hs hs2) fun σ H R ⟨n, ow, env, Q, E, s, hq, k, x⟩ => ⟨n, ow, env, _, E, s, hq, fun v t H1 ow1 env1 y1 s1 o1 r1 z1 =>
    ⟨n + 1, ow1, env1, _, E, s1, z1, fun w u H2 ow2 env2 y2 s2 o2 r2 z2 => by
      split at z2
      · rename_i i j
        have e1 := Tq.rd r1
        cases e1
        have e2 := Tq.rd r2
        cases e2
        obtain ⟨h1, h2, h3, h4, h5, z2⟩ := z2
        exact ⟨i, j, rfl, ⟨h1, h2, h3, h4⟩, k _ _ H2 ow2 env2 (y1.trans y2 subl subr (Nat.le_refl _) (Nat.le_succ _)) s2 (o1.trans o2 subl subr) (itd_rng (by omega)) z2⟩
      · exact z2.elim, x.step y1 o1 subl subr (Nat.le_refl _) (Nat.le_succ _)⟩, fun r d H' ow' env' y s' o => x r d H' ow' env' (y.mono subl (Nat.le_refl _)) s' (o.mono subl)⟩⟩
theorem i_enum {elts : List Expr} {kk : Nat} {tpos : Pos} (hg : Gl X "enumerate") (hm : X.mg "enumerate" = none) (h : QE X W M e q) (hs : starEach [e] X.env = [(false, eval e X.env)] := by rfl) : QI X W M (.Tuple elts kk tpos) (.Call (.Name "enumerate" p) [e] [] pos) (iSeq q enumD) :=
  ⟨PI_imp (pi_enum hg hm (pa_cons h.run pa_nil hs) hs) fun σ H R ⟨n, ow, env, Q, E, s, hq, k, x⟩ => ⟨n, ow, env, _, E, s, hq, fun v t H' ow' env' y s' o r z => by
    split at z
    · obtain ⟨a, vs, rfl, c, hz, r⟩ := fz_lst r
      exact ⟨a, vs, rfl, (bs_same _ _).seq c, k _ _ H' ow' env' y s' o (itd_enum c hz r) z⟩
    · exact z.elim, x⟩⟩
theorem i_rev (hg : Gl X "reversed") (hm : X.mg "reversed" = none) (h : QE X W M e q) (hs : starEach [e] X.env = [(false, eval e X.env)] := by rfl) : QI X W M tg (.Call (.Name "reversed" p) [e] [] pos) (iSeq q List.reverse) :=
  ⟨PI_imp (pi_reversed hg hm (pa_cons h.run pa_nil hs) hs) fun σ H R ⟨n, ow, env, Q, E, s, hq, k, x⟩ => ⟨n, ow, env, _, E, s, hq, fun v t H' ow' env' y s' o r z => by
    split at z
    · obtain ⟨a, vs, rfl, c, hz, r⟩ := fz_lst r
      exact ⟨a, vs, rfl, (bs_same _ _).seq c, k _ _ H' ow' env' y s' o (itd_rev c hz r) z⟩
    · exact z.elim, x⟩⟩
def iZip2 (qa qb : SemE) : SemI := fun env Q E => qa env (fun t env1 => qb env1 (fun u env2 => match t, u with
  | .fz (.nd .lst ds), .fz (.nd .lst es) => Q (zipD ds es) env2
  | _, _ => False) E) E
theorem i_zip {elts : List Expr} {kk : Nat} {tpos : Pos} (hg : Gl X "zip") (hm : X.mg "zip" = none) (ha : QE X W Ma a qa) (hb : QE X W Mb b qb) (hs : starEach [a, b] X.env = (false, eval a X.env) :: starEach [b] X.env := by rfl) (hs2 : starEach [b] X.env = (false, eval b X.env) :: starEach [] X.env := by rfl)
    (hpl : (backTo pos (starEach [b] X.env)).any (·.1) = false := by rfl) : QI X W (Ma ++ Mb) (.Tuple elts kk tpos) (.Call (.Name "zip" p) [a, b] [] pos) (iZip2 qa qb) :=
  ⟨PI_imp (pi_zip hg hm (pa_cons ha.run (pa_cons hb.run pa_nil hs2) hs) hs hpl) fun σ H R ⟨n, ow, env, Q, E, s, hq, k, x⟩ => ⟨n, ow, env, _, E, s, hq, fun v t H1 ow1 env1 y1 s1 o1 r1 z1 =>
    ⟨n + 1, ow1, env1, _, E, s1, z1, fun w u H2 ow2 env2 y2 s2 o2 r2 z2 => by
      split at z2
      · obtain ⟨a, vs, rfl, c, hz, rr⟩ := fz_lst (Tq.fz_.mpr ((Tq.fz_.mp r1).mono y2.bs) : Tq X.K H2 ow2 (.tm 0) _ _)
        obtain ⟨b, ws, rfl, c', hz', rr'⟩ := fz_lst r2
        exact ⟨a, b, vs, ws, rfl, (bs_same _ _).seq c, (bs_same _ _).seq c', k _ _ H2 ow2 env2 (y1.trans y2 subl subr (Nat.le_refl _) (Nat.le_succ _)) s2 (o1.trans o2 subl subr) (itd_zip c c' hz rr rr') z2⟩
      · exact z2.elim, x.step y1 o1 subl subr (Nat.le_refl _) (Nat.le_succ _)⟩, fun r d H' ow' env' y s' o => x r d H' ow' env' (y.mono subl (Nat.le_refl _)) s' (o.mono subl)⟩⟩
end

inductive ForG (g : SemG) (body : SemS) (D : EndsQ) (ds : List QV.D) (env1 : Env) : Prop
  | mk (h : ∃ I : Nat → Env → Prop, I 0 env1 ∧ (∀ j d env', ds[j]? = some d → I j env' → g d env' fun env2 => body { D with nx := I (j + 1), ct := I (j + 1), bk := D.nx } env2) ∧ ∀ env', I ds.length env' → D.nx env')
  | no (h : False)
theorem ForG.ex {g : SemG} {body : SemS} {D : EndsQ} {ds : List QV.D} {env1 : Env} : ForG g body D ds env1 → ∃ I : Nat → Env → Prop, I 0 env1 ∧ (∀ j d env', ds[j]? = some d → I j env' → g d env' fun env2 => body { D with nx := I (j + 1), ct := I (j + 1), bk := D.nx } env2) ∧ ∀ env', I ds.length env' → D.nx env'
  | .mk h => h
  | .no h => h.elim
def sFor (i : SemI) (g : SemG) (body : SemS) : SemS := fun D env => i env (fun ds env1 => ForG g body D ds env1) D.ex
inductive WhileG (t : SemT) (body : SemS) (D : EndsQ) (env : Env) : Prop
  | mk (h : ∃ I : Nat → Env → Prop, (∃ m, I m env) ∧ ∀ m env', I m env' → t env' (fun c env1 => (c = true → body { D with nx := fun e => ∃ m', m' < m ∧ I m' e, ct := fun e => ∃ m', m' < m ∧ I m' e, bk := D.nx } env1) ∧ (c = false → D.nx env1)) D.ex)
  | no (h : False)
theorem WhileG.ex {t : SemT} {body : SemS} {D : EndsQ} {env : Env} : WhileG t body D env → ∃ I : Nat → Env → Prop, (∃ m, I m env) ∧ ∀ m env', I m env' → t env' (fun c env1 => (c = true → body { D with nx := fun e => ∃ m', m' < m ∧ I m' e, ct := fun e => ∃ m', m' < m ∧ I m' e, bk := D.nx } env1) ∧ (c = false → D.nx env1)) D.ex
  | .mk h => h
  | .no h => h.elim
def sWhile (t : SemT) (body : SemS) : SemS := fun D env => WhileG t body D env
def putE (env : Env) : List Nat → List (Option T) → Env
  | i :: is, v :: vs => putE (env.set i v) is vs
  | _, _ => env
theorem ForG.fr {g : SemG} {body : SemS} {D : EndsQ} {ds : List QV.D} {env : Env} (ms : List Nat) (I : Nat → List (Option T) → Prop) (h0 : ∃ vs, env = putE env ms vs ∧ I 0 vs)
    (hs : ∀ j d vs, ds[j]? = some d → I j vs → g d (putE env ms vs) fun env2 => body { D with nx := fun e => ∃ us, e = putE env ms us ∧ I (j + 1) us, ct := fun e => ∃ us, e = putE env ms us ∧ I (j + 1) us, bk := D.nx } env2) (he : ∀ vs, I ds.length vs → D.nx (putE env ms vs)) : ForG g body D ds env :=
  .mk ⟨fun j e => ∃ vs, e = putE env ms vs ∧ I j vs, h0, fun j d env' hd ⟨vs, e, i⟩ => by subst e; exact hs j d vs hd i, fun env' ⟨vs, e, i⟩ => by subst e; exact he vs i⟩
theorem WhileG.fr {t : SemT} {body : SemS} {D : EndsQ} {env : Env} (ms : List Nat) (I : Nat → List (Option T) → Prop) (h0 : ∃ m vs, env = putE env ms vs ∧ I m vs)
    (hs : ∀ m vs, I m vs → t (putE env ms vs) (fun c env1 => (c = true → body { D with nx := fun e => ∃ m', m' < m ∧ ∃ us, e = putE env ms us ∧ I m' us, ct := fun e => ∃ m', m' < m ∧ ∃ us, e = putE env ms us ∧ I m' us, bk := D.nx } env1) ∧ (c = false → D.nx env1)) D.ex) : WhileG t body D env :=
  .mk ⟨fun m e => ∃ vs, e = putE env ms vs ∧ I m vs, h0, fun m env' ⟨vs, e, i⟩ => by subst e; exact hs m vs i⟩
theorem CutG.fr {q : SemS} {D : EndsQ} {env : Env} (ms : List Nat) (R : List (Option T) → Prop) (h : q { D with nx := fun e => ∃ us, e = putE env ms us ∧ R us } env) (he : ∀ vs, R vs → D.nx (putE env ms vs)) : CutG q D env :=
  .mk ⟨fun e => ∃ us, e = putE env ms us ∧ R us, h, fun env' ⟨vs, e, i⟩ => by subst e; exact he vs i⟩
section
variable {X : Cx} {W : WX} {M IO SS : List Nat} {iter tg c : Expr} {body : List Stmt} {i : SemI} {g : SemG} {b : SemS} {tc : SemT} {pos : Pos}
theorem s_for (hp : PassesOwn (model X.prog X.w) X.A X.env X.xe) (hc : X.calm = true) (hi : QI X W M tg iter i) (hg : QG X SS tg g) (hb : QSs X W IO body b) (hio : ∀ i ∈ IO, i ∉ SS := by decide) (hs : ∀ x, foldedSetIterable iter X.env x = pure x := by intro _; rfl) : QS X W IO (.For tg iter body [] pos) (sFor i g b) :=
  ⟨PS_imp (ps_for hp hc hi.run hg.run hb.run hs) fun D σ H ⟨ow, env, De, s, hq, k⟩ => ⟨0, ow, env, _, De.ex, s, hq, fun J ds H1 ow1 env1 y1 s1 _ J1 hF => by
    obtain ⟨I, i0, it, ie⟩ := hF.ex
    refine ⟨fun j m σ' H' => m = ds.length - j ∧ j ≤ ds.length ∧ ∃ ow' env', Fs H1 ow1 H' ow' ∧ Ios IO σ σ' ∧ StOk X.K H' ow' σ' env' ∧ I j env', ⟨ds.length, by simp, Nat.zero_le _, ow1, env1, Fs.refl, Ios.refl, s1, i0⟩, ?_⟩
    rintro j m σ' H' ⟨rfl, hj, ow', env', fs, io, s', ij⟩
    by_cases hlt : j < ds.length
    · have hd : ds[j]? = some ds[j] := by simp [hlt]
      refine .inr ⟨J1.go j _ H' ow' fs hd, fun σ2 H2 => ∃ ow2 env2, Fs H1 ow1 H2 ow2 ∧ Ios IO σ σ2 ∧ StOk X.K H2 ow2 σ2 env2 ∧ I (j + 1) env2, fun σ2 H2 ⟨ow2, env2, q⟩ => ⟨ds.length - (j + 1), by omega, rfl, hlt, ow2, env2, q⟩, fun x H2 yl => ?_⟩
      obtain ⟨ow2, ex, rx⟩ := J1.yld j _ H' ow' x H2 fs hd yl
      have y2 : Stp [] 0 H' ow' H2 ow2 := ex.stp
      refine ⟨ow2, env', _, _, s'.stp0 y2, rx, it j _ env' hd ij, fun σ3 env3 tc3 _ s3 z3 => ?_⟩
      have io3 := tc3.ios hio
      have fs2 := fs.trans y2.fs
      refine ⟨ow2, env3, _, s3, z3, ⟨fun σ4 H4 ow4 env4 f4 i4 s4 z4 => ⟨ow4, env4, fs2.trans f4, (io.trans io3).trans i4, s4, z4⟩, (k.rt.step (y1.fs.trans fs2) (io.trans io3)), (k.nx.step (y1.fs.trans fs2) (io.trans io3)), fun σ4 H4 ow4 env4 f4 i4 s4 z4 => ⟨ow4, env4, fs2.trans f4, (io.trans io3).trans i4, s4, z4⟩, k.ex.step (y1.fs.trans fs2) (io.trans io3)⟩⟩
    · have e : j = ds.length := by omega
      subst e
      exact .inl ⟨J1.stop H' ow' fs, k.nx σ' H' ow' env' (y1.fs.trans fs) io s' (ie env' ij)⟩, k.ex.xk⟩⟩
theorem s_while (hp : PassesOwn (model X.prog X.w) X.A X.env X.xe) (hc : QT X W M c tc) (hb : QSs X W IO body b) : QS X W IO (.While c body [] pos) (sWhile tc b) :=
  ⟨PS_imp (ps_while hp hc.run hb.run) fun D σ H ⟨ow, env, De, s, hF, k⟩ => by
    obtain ⟨I, ⟨m0, i0⟩, it⟩ := hF.ex
    refine ⟨fun m σ' H' => ∃ ow' env', Fs H ow H' ow' ∧ Ios IO σ σ' ∧ StOk X.K H' ow' σ' env' ∧ I m env', ⟨m0, ow, env, Fs.refl, Ios.refl, s, i0⟩, ?_⟩
    rintro m σ' H' ⟨ow', env', fs, io, s', im⟩
    refine ⟨0, ow', env', _, De.ex, s', it m env' im, fun d H2 ow2 env2 y2 s2 _ z => ?_, (k.ex.step fs io).xk⟩
    cases d with
    | true =>
      rw [if_pos rfl]
      have fs2 := fs.trans y2.fs
      refine ⟨fun σ3 H3 => ∃ m', m' < m ∧ ∃ ow3 env3, Fs H ow H3 ow3 ∧ Ios IO σ σ3 ∧ StOk X.K H3 ow3 σ3 env3 ∧ I m' env3, fun σ3 H3 q => q, ow2, env2, _, s2, z.1 rfl, ⟨fun σ4 H4 ow4 env4 f4 i4 s4 ⟨m', hm, z4⟩ => ⟨m', hm, ow4, env4, fs2.trans f4, io.trans i4, s4, z4⟩, k.rt.step fs2 io, k.nx.step fs2 io, fun σ4 H4 ow4 env4 f4 i4 s4 ⟨m', hm, z4⟩ => ⟨m', hm, ow4, env4, fs2.trans f4, io.trans i4, s4, z4⟩, k.ex.step fs2 io⟩⟩
    | false =>
      rw [if_neg Bool.false_ne_true]
      exact k.nx σ' H2 ow2 env2 (fs.trans y2.fs) io s2 (z.2 rfl)⟩
end
end QV

set_option Elab.async false
set_option linter.all false
set_option maxRecDepth 100000
set_option maxHeartbeats 2000000
namespace QV
open PySem PySem.Spec PyProof.Rows L2

structure FnG (P : Program) (w : World) (K : PySem.W.Frag) (mg : Str → Option Value) (base : Heap) (k : Nat) (f : Addr) (fd : FuncData) (ps : List Str) (sp : Sp) : Prop where
  len : ∀ vs H Q E, sp vs H Q E → vs.length = ps.length
  run : ∀ (A : Around) (outer : List PySem.Env) (s : Shared) (H : Hp) (args : Args) (us : List Value) (vs : List V) (Q : VK) (E : XK), Room k A → A.guards = some [] → Env0 P w K mg base A outer s H → BindsTo s fd args (ps.zip us) → Vals vs us → sp vs H Q E →
    codeAny (model P w) A (.call (.ref f) args) (CR (L2.CX P w) outer P w H s Q E) s
section
variable {P : Program} {w : World} {K : PySem.W.Frag} {mg : Str → Option Value} {base : Heap}
theorem guards_deeper {A : Around} {env : PySem.Env} (h : A.guards = some []) : (A.deeper env).guards = some [] := h
theorem fnG_of {k : Nat} {x qual : Str} {st : Stmt} {f : Addr} {fd : FuncData} {N ps : List Str} {sp : Sp} (F : Fun K x qual st f fd) (S : FnScope N ps (defScope st)) (len : ∀ vs H Q E, sp vs H Q E → vs.length = ps.length)
    (hb : ∀ (cdv : Value) (A : Around) (outer : List PySem.Env) (s : Shared) (H : Hp) (vs : List V) (Q : VK) (E : XK), Room k (A.deeper (envOfC qual (defScope st) s.heap.objs.size f cdv)) → A.guards = some [] → sp vs H Q E →
      ∃ t, PSs (cxOf (L2.CX P w) P w K mg base N qual (defScope st) f cdv A outer s H E) (defBody st) t ∧ t { nx := fun _ H' => Q .non H', rt := Q } (L2.start N vs) H) : FnG P w K mg base (k + 1) f fd ps sp := by
  obtain ⟨oc, od, kV, doc, pm, an, cdv, ct, osl, rfl, lk, hcd⟩ := F.ex
  constructor
  · exact len
  · intro A outer s H args us vs Q E hr hG e0 hbind rv hsp
    have hlen := len _ _ _ _ hsp
    have kin : K.In s.heap := e0.mod.kin.keeps fun b o e => (e0.bs b o e).1
    have nl : s.heap.NoLimit := e0.mod.nolimit.keeps fun b o e => (e0.bs b o e).1
    have kinds : ∀ y ∈ ps.zip us, (defScope st).names.lookup y.1 = some .local ∨ ((defScope st).names.lookup y.1 = some .cell ∧ ((cellsFrom (s.heap.objs.size + 1) (defScope st).names []).lookup y.1).isSome = true) := by
      rintro ⟨m, u⟩ hy
      rcases S.par m (List.of_mem_zip hy).1 with q | q
      · exact .inl q
      · exact .inr ⟨q, PySem.W.cellsFrom_some _ _ _ (.inl q)⟩
    apply codeAny_call_function hr.depth (kin _ _ lk) rfl S.co S.gen rfl (PySem.W.codeRec_of kin hcd) (hbind _ _ _ _ _)
    refine wpAny_newFunctionEnv_cells S.kind kinds ?_
    rintro env rfl s1 ic
    refine ⟨nl.keeps ic.toInCall.keep, codeAny_func ?_⟩
    obtain ⟨t, ht, q⟩ := hb cdv A outer s H vs Q E (hr.deeper _) hG hsp
    have I0 : Inv (cxOf (L2.CX P w) P w K mg base N qual (defScope st) f cdv A outer s H E) [] (L2.start N vs) H s1 := inv_start S hr.hd e0 hlen rv ic
    refine wpAny_mono (ht.run [] s1 (L2.start N vs) H _ I0 q) ?_ fun _ _ z => z
    intro fl s' z
    cases fl with
    | ret u =>
      obtain ⟨v, σ', H', J, r, qq⟩ := z
      exact ⟨v, H', J.os, J.bare, J.base, J.hok, r, qq⟩
    | next =>
      obtain ⟨σ', H', J, qq⟩ := z
      exact ⟨.non, H', J.os, J.bare, J.base, J.hok, rfl, qq⟩
    | brk =>
      obtain ⟨_, _, _, qq⟩ := z
      exact qq.elim
    | cont =>
      obtain ⟨_, _, _, qq⟩ := z
      exact qq.elim
theorem FnG.mono {j k : Nat} {f : Addr} {fd : FuncData} {ps : List Str} {sp : Sp} (F : FnG P w K mg base j f fd ps sp) (h : j ≤ k) : FnG P w K mg base k f fd ps sp := ⟨F.len, fun A outer s H args us vs Q E hr => F.run A outer s H args us vs Q E (hr.mono h)⟩
theorem FnG.imp {k : Nat} {f : Addr} {fd : FuncData} {ps : List Str} {sp sp' : Sp} (F : FnG P w K mg base k f fd ps sp) (h : ∀ vs H Q E, sp' vs H Q E → sp vs H Q E) : FnG P w K mg base k f fd ps sp' :=
  ⟨fun vs H Q E q => F.len vs H Q E (h _ _ _ _ q), fun A outer s H args us vs Q E hr hg he hb hv hs => F.run A outer s H args us vs Q E hr hg he hb hv (h _ _ _ _ hs)⟩
end
section
variable {X : Cx} {W : WX} {k : Nat} {f C : Addr} {fd : FuncData} {ps : List Str} {sp : Sp} {x m : Str} {p pos apos : Pos} {e o : Expr} {es : List Expr} {ta : TE} {t : TA}
theorem runG {pins : List (Addr × Obj)} {σ : L2.St} {H : Hp} {s : Shared} {Q : VK} {us : List Value} {vs : List V} (F : FnG X.prog X.w X.K X.mg X.base k f fd ps sp) (hr : Room k X.A) (hG : X.A.guards = some []) (hb : Binds X.K fd ps []) (tk : L2.Takes X W)
    (I : Inv X pins σ H s) (r : Vals vs us) (h : sp vs H Q fun cls d H' => W cls d σ H') : wpAny (model X.prog X.w) X.A (call (.ref f) us) (EP X pins σ Q) X.xe s := by
  have hl : (us ++ []).length = ps.length := by rw [List.append_nil, ← r.length]; exact F.len _ _ _ _ h
  have hb2 : BindsTo s fd ⟨us, []⟩ (ps.zip us) := by have := hb s us I.kIn hl; rwa [List.append_nil] at this
  apply wpAny_call
  refine codeAny_mono (F.run X.A X.stack s H ⟨us, []⟩ us vs Q _ hr hG I.env0 hb2 r h) ?_
  intro res s' z
  cases res with
  | error ex => exact tk _ _ (XE.of_call I (fun _ _ _ q => q) z)
  | ok fl =>
    cases fl with
    | ret u => exact I.after z
    | next => exact z.elim
    | brk => exact z.elim
    | cont => exact z.elim
theorem pe_callG (F : FnG X.prog X.w X.K X.mg X.base k f fd ps sp) (hr : Room k X.A) (hG : X.A.guards = some []) (hg : Gl X x) (hm : X.mg x = some (.ref f)) (hk : PySem.W.keepIn X.K (.ref f) = true) (hb : Binds X.K fd ps []) (tk : L2.Takes X W)
    (ha : PA X (e :: es) t) (hdb : (x == ("__debug__" : Str)) = false := by decide) (he : starEach (e :: es) X.env = (false, eval e X.env) :: starEach es X.env := by rfl) (hpl : (backTo pos (starEach es X.env)).any (·.1) = false := by rfl) :
    PE X (.Call (.Name x p) (e :: es) [] pos) (fun σ H Q => t σ H fun vs H1 => sp vs H1 Q fun cls d H' => W cls d σ H') := by
  constructor
  intro pins s σ H Q I h
  apply wpAny_Call_Name_kw
  refine ld_glob I hg hm ?_ hdb
  refine PySem.W.callWith_K (h₀ := X.base) I.ok.mod.kin hk ?_ he hpl
  refine thn (ha.run pos pins s σ H _ I h) ?_
  rintro us s1 ⟨vs, H1, I1, r, q⟩
  exact ⟨I1.kIn, runG F hr hG hb tk I1 r q⟩
end

abbrev SemF := List T → (T → List T → Prop) → (Rz → List T → Prop) → Prop
def spQ (K : PySem.W.Frag) (n : Nat) (io : List Nat) (spec : SemF) : Sp := fun vs H Qv E => vs.length = n ∧ ∃ (ow : Ow) (args : List T) (Q : T → List T → Prop) (EE : Rz → List T → Prop),
  args.length = n ∧ (∀ (i : Nat) (t : T), args[i]? = some t → ∃ v, vs[i]? = some v ∧ Tq K H ow (.sl i) v t) ∧ spec args Q EE ∧
  (∀ (v : V) (t : T) (H' : Hp) (ow' : Ow) (outs : List T), Fs H ow H' ow' → Tq K H' ow' (.tm 0) v t → outs.length = io.length → (∀ (j i : Nat) (u : T), io[j]? = some i → outs[j]? = some u → ∃ v, vs[i]? = some v ∧ Tq K H' ow' (.sl i) v u) → Q t outs → Qv v H') ∧
  (∀ (r : Rz) (d : Option Addr) (H' : Hp) (ow' : Ow) (outs : List T), Fs H ow H' ow' → Rzp K H' ow' d r → outs.length = io.length → (∀ (j i : Nat) (u : T), io[j]? = some i → outs[j]? = some u → ∃ v, vs[i]? = some v ∧ Tq K H' ow' (.sl i) v u) → EE r outs → E (.ref r.C) d H')
def outsOf : List Nat → Env → Option (List T)
  | [], _ => some []
  | i :: is, env => match env[i]? with
    | some (some t) => match outsOf is env with
      | some ts => some (t :: ts)
      | none => none
    | _ => none
theorem outs_get : ∀ {io : List Nat} {env : Env} {ts : List T}, outsOf io env = some ts → ts.length = io.length ∧ ∀ (j i : Nat) (u : T), io[j]? = some i → ts[j]? = some u → env[i]? = some (some u)
  | [], env, ts, h => by cases h; exact ⟨rfl, fun j i u e => by simp at e⟩
  | i :: is, env, ts, h => by
    unfold outsOf at h
    split at h
    · rename_i t e
      split at h
      · rename_i us e2
        cases h
        obtain ⟨h1, h2⟩ := outs_get e2
        refine ⟨by rw [List.length_cons, List.length_cons, h1], fun j i' u ej eu => ?_⟩
        cases j with
        | zero => simp at ej eu; subst ej eu; exact e
        | succ j => exact h2 j i' u (by simpa using ej) (by simpa using eu)
      · cases h
    · cases h
def EndsF (io : List Nat) (Q : T → List T → Prop) (EE : Rz → List T → Prop) : EndsQ where
  nx := fun env => match outsOf io env with
    | some ts => Q (.fz .non) ts
    | none => False
  rt := fun t env => match outsOf io env with
    | some ts => Q t ts
    | none => False
  bk := fun _ => False
  ct := fun _ => False
  ex := fun r env => match outsOf io env with
    | some ts => EE r ts
    | none => False
def env0 (N : Nat) (args : List T) : Env := args.map some ++ List.replicate (N - args.length) none
def QFn (P : Program) (w : World) (K : PySem.W.Frag) (mg : Str → Option Value) (base : Heap) (k : Nat) (f : Addr) (fd : FuncData) (ps : List Str) (io : List Nat) (spec : SemF) : Prop := FnG P w K mg base k f fd ps (spQ K ps.length io spec)
section
variable {P : Program} {w : World} {K : PySem.W.Frag} {mg : Str → Option Value} {base : Heap}
theorem QFn.mono {j k : Nat} {f : Addr} {fd : FuncData} {ps : List Str} {io : List Nat} {spec : SemF} (F : QFn P w K mg base j f fd ps io spec) (h : j ≤ k) : QFn P w K mg base k f fd ps io spec := FnG.mono F h
theorem QFn.imp {k : Nat} {f : Addr} {fd : FuncData} {ps : List Str} {io : List Nat} {spec spec' : SemF} (F : QFn P w K mg base k f fd ps io spec) (h : ∀ a Q E, spec' a Q E → spec a Q E) : QFn P w K mg base k f fd ps io spec' :=
  FnG.imp F fun vs H Qv E ⟨hl, ow, args, Q, EE, h1, h2, h3, h4, h5⟩ => ⟨hl, ow, args, Q, EE, h1, h2, h _ _ _ h3, h4, h5⟩
theorem start_get {N : List Str} {vs : List V} {i : Nat} {v : V} (h : vs[i]? = some v) : (L2.start N vs)[i]? = some (some v) := by
  unfold L2.start
  have hi : i < vs.length := (List.getElem?_eq_some_iff.mp h).1
  rw [List.getElem?_append_left (by simpa using hi), List.getElem?_map, h]
  rfl
theorem env0_get {N : Nat} {args : List T} {i : Nat} {t : T} (h : (env0 N args)[i]? = some (some t)) : args[i]? = some t := by
  unfold env0 at h
  by_cases hi : i < args.length
  · rw [List.getElem?_append_left (by simpa using hi), List.getElem?_map] at h
    cases e : args[i]? with
    | none => rw [e] at h; cases h
    | some u => rw [e] at h; cases h; rfl
  · rw [List.getElem?_append_right (by simpa using hi), List.getElem?_replicate] at h
    split at h <;> cases h
theorem qfn_of {k : Nat} {x qual : Str} {st : Stmt} {f : Addr} {fd : FuncData} {N ps : List Str} {io : List Nat} {spec : SemF} (F : Fun K x qual st f fd) (S : FnScope N ps (defScope st)) (hio : (io.all fun i => decide (i < ps.length)) = true) (hpN : ps.length ≤ N.length)
    (hb : ∀ (cdv : Value) (A : Around) (outer : List PySem.Env) (s : Shared) (H : Hp) (E : XK) (W : WX), Room k (A.deeper (envOfC qual (defScope st) s.heap.objs.size f cdv)) → A.guards = some [] → L2.Takes (cxOf (L2.CX P w) P w K mg base N qual (defScope st) f cdv A outer s H E) W →
      PassesOwn (model P w) (A.deeper (envOfC qual (defScope st) s.heap.objs.size f cdv)) (envOfC qual (defScope st) s.heap.objs.size f cdv) (cxOf (L2.CX P w) P w K mg base N qual (defScope st) f cdv A outer s H E).xe →
      ∃ q, QSs (cxOf (L2.CX P w) P w K mg base N qual (defScope st) f cdv A outer s H E) W io (defBody st) q ∧ ∀ args Q E, args.length = ps.length → spec args Q E → q (EndsF io Q E) (env0 N.length args)) : QFn P w K mg base (k + 1) f fd ps io spec := by
  refine fnG_of F S (fun vs H Q E h => h.1) fun cdv A outer s H vs Qv E hr hG ⟨hl, ow, args, Q, EE, ha, h2, h3, h4, h5⟩ => ?_
  obtain ⟨q, hq, hs⟩ := hb cdv A outer s H E (fun cls d σ H' => E cls d H') hr hG (takes_of rfl rfl rfl rfl) (passes_of rfl)
  refine ⟨_, hq.run, ow, env0 N.length args, EndsF io Q EE, ⟨?_, fun i t e => ?_⟩, hs args Q EE ha h3, ?_⟩
  · unfold env0 L2.start
    rw [List.length_append, List.length_append, List.length_map, List.length_map, List.length_replicate, List.length_replicate, ha, hl]
  · obtain ⟨v, e1, r⟩ := h2 i t (env0_get e)
    exact ⟨v, start_get e1, r⟩
  · have outs : ∀ {σ' : L2.St} {H' : Hp} {ow' : Ow} {env' : Env} {ts : List T}, Ios io (L2.start N vs) σ' → StOk K H' ow' σ' env' → outsOf io env' = some ts → ts.length = io.length ∧ ∀ (j i : Nat) (u : T), io[j]? = some i → ts[j]? = some u → ∃ v, vs[i]? = some v ∧ Tq K H' ow' (.sl i) v u := fun {σ' H' ow' env' ts} io' s' e => by
      obtain ⟨g1, g2⟩ := outs_get e
      refine ⟨g1, fun j i u ej eu => ?_⟩
      obtain ⟨v, e1, r⟩ := s'.at_ i u (g2 j i u ej eu)
      have mi : i ∈ io := List.mem_of_getElem? ej
      rw [io' i mi] at e1
      have hi : i < vs.length := by rw [hl]; exact of_decide_eq_true (List.all_eq_true.mp hio i mi)
      have e2 : vs[i]? = some vs[i] := by simp [hi]
      rw [start_get e2] at e1
      cases e1
      exact ⟨_, e2, r⟩
    refine ⟨fun σ' H' ow' env' fs i s' z => ?_, fun v t σ' H' ow' env' fs i s' r z => ?_, fun _ _ _ _ _ _ _ z => z.elim, fun _ _ _ _ _ _ _ z => z.elim, fun r d σ' H' ow' env' fs i s' rz z => ?_⟩
    · show Qv .non H'
      simp only [EndsF] at z
      split at z
      · rename_i ts e
        obtain ⟨g1, g2⟩ := outs i s' e
        exact h4 _ _ H' ow' ts fs (Tq.fz_.mpr .non) g1 g2 z
      · exact z.elim
    · simp only [EndsF] at z
      split at z
      · rename_i ts e
        obtain ⟨g1, g2⟩ := outs i s' e
        exact h4 _ _ H' ow' ts fs r g1 g2 z
      · exact z.elim
    · simp only [EndsF] at z
      split at z
      · rename_i ts e
        obtain ⟨g1, g2⟩ := outs i s' e
        exact h5 r d H' ow' ts fs rz g1 g2 z
      · exact z.elim
end
end QV

set_option Elab.async false
set_option linter.all false
set_option maxRecDepth 100000
set_option maxHeartbeats 2000000
namespace QV
open PySem L2

abbrev SemD := Env → (List D → Env → Prop) → XQ → Prop
def tA (K : PySem.W.Frag) (W : WX) (M : List Nat) (ks : List (Option Nat)) (q : SemD) : TA := fun σ H Qv => ∃ (n : Nat) (ow : Ow) (env : Env) (Q : List D → Env → Prop) (E : XQ), StOk K H ow σ env ∧ q env Q E ∧
  (∀ (vs : List V) (ds : List D) (H' : Hp) (ow' : Ow) (env' : Env), Stp M n H ow H' ow' → StOk K H' ow' σ env' → Out M env env' → vs.length = ks.length → ds.length = ks.length →
    (∀ (j : Nat) (v : V) (d : D), vs[j]? = some v → ds[j]? = some d → (ks[j]? = some none → Rp K (Bs H' ow') v d) ∧ ∀ i, ks[j]? = some (some i) → σ[i]? = some (some v)) → Q ds env' → Qv vs H') ∧ Xk K W M σ H n ow env E
structure QA (X : Cx) (W : WX) (M : List Nat) (ks : List (Option Nat)) (es : List Expr) (q : SemD) : Prop where
  run : PA X es (tA X.K W M ks q)
def aNil : SemD := fun env Q _ => Q [] env
def aCons (q : SemE) (qs : SemD) : SemD := fun env Q E => q env (fun t env1 => match t with
  | .fz d => qs env1 (fun ds env2 => Q (d :: ds) env2) E
  | _ => False) E
def aOwn (i : Nat) (qs : SemD) : SemD := fun env Q E => match env[i]? with
  | some (some _) => qs env (fun ds env2 => Q (.non :: ds) env2) E
  | _ => False
section
variable {X : Cx} {W : WX} {M Ma Mb : List Nat} {e : Expr} {es : List Expr} {q : SemE} {qs : SemD} {ks : List (Option Nat)} {pos : Pos}
theorem a_nil : QA X W [] [] [] aNil := ⟨PA_imp pa_nil fun σ H Qv ⟨n, ow, env, Q, E, s, hq, k, x⟩ => k [] [] H ow env Stp.refl s Out.refl rfl rfl (fun j v d h => by simp at h) hq⟩
theorem a_cons (h1 : QE X W Ma e q) (h2 : QA X W Mb ks es qs) (hs : starEach (e :: es) X.env = (false, eval e X.env) :: starEach es X.env := by rfl) : QA X W (Ma ++ Mb) (none :: ks) (e :: es) (aCons q qs) :=
  ⟨PA_imp (pa_cons h1.run h2.run hs) fun σ H Qv ⟨n, ow, env, Q, E, s, hq, k, x⟩ => ⟨n, ow, env, _, E, s, hq, fun v t H1 ow1 env1 y1 s1 o1 r1 z => by
    split at z
    · refine ⟨n + 1, ow1, env1, _, E, s1, z, fun vs ds H2 ow2 env2 y2 s2 o2 l1 l2 hv z2 => ?_, x.step y1 o1 subl subr (Nat.le_refl _) (Nat.le_succ _)⟩
      refine k _ _ H2 ow2 env2 (y1.trans y2 subl subr (Nat.le_refl _) (Nat.le_succ _)) s2 (o1.trans o2 subl subr) (by rw [List.length_cons, List.length_cons, l1]) (by rw [List.length_cons, List.length_cons, l2]) (fun j v' d' ev ed => ?_) z2
      cases j with
      | zero =>
        simp at ev ed
        subst ev ed
        exact ⟨fun _ => (Tq.fz_.mp r1).mono y2.bs, fun i hi => by simp at hi⟩
      | succ j => exact hv j v' d' (by simpa using ev) (by simpa using ed)
    · exact z.elim, fun r d H' ow' env' y s' o => x r d H' ow' env' (y.mono subl (Nat.le_refl _)) s' (o.mono subl)⟩⟩
theorem a_own (i : Nat) {x : Str} {px : Pos} (h2 : QA X W Mb ks es qs) (hN : X.N[i]? = some x := by rfl) (hv : Vis X.env.scope x := by first | exact Or.inl rfl | exact Or.inr (Or.inl rfl) | exact Or.inr (Or.inr rfl)) (hd : (x == ("__debug__" : Str)) = false := by decide)
    (hcd : (x == ("__classdict__" : Str)) = false := by decide) (hs : starEach (.Name x px :: es) X.env = (false, eval (.Name x px) X.env) :: starEach es X.env := by rfl) : QA X W Mb (some i :: ks) (.Name x px :: es) (aOwn i qs) :=
  ⟨PA_imp (pa_cons (pe_var (i := i) hN hv hd hcd) h2.run hs) fun σ H Qv ⟨n, ow, env, Q, E, s, hq, k, x⟩ => by
    unfold aOwn at hq
    split at hq
    · rename_i t e
      obtain ⟨v, e1, r⟩ := s.at_ i t e
      refine ⟨v, e1, n, ow, env, _, E, s, hq, fun vs ds H2 ow2 env2 y2 s2 o2 l1 l2 hv z2 => ?_, x⟩
      refine k _ _ H2 ow2 env2 y2 s2 o2 (by rw [List.length_cons, List.length_cons, l1]) (by rw [List.length_cons, List.length_cons, l2]) (fun j v' d' ev ed => ?_) z2
      cases j with
      | zero =>
        simp at ev ed
        subst ev ed
        exact ⟨fun h => by simp at h, fun i' hi => by simp at hi; subst hi; exact e1⟩
      | succ j => exact hv j v' d' (by simpa using ev) (by simpa using ed)
    · exact hq.elim⟩
theorem rps_of {K : PySem.W.Frag} {B : Hp} : ∀ {n : Nat} {vs : List V} {ds : List D}, vs.length = n → ds.length = n → (∀ (j : Nat) (v : V) (d : D), vs[j]? = some v → ds[j]? = some d → Rp K B v d) → Rps K B vs ds
  | 0, [], [], _, _, _ => .nil
  | n + 1, v :: vs, d :: ds, h1, h2, h => .cons (h 0 v d rfl rfl) (rps_of (n := n) (by simpa using h1) (by simpa using h2) fun j v' d' e1 e2 => h (j + 1) v' d' (by simpa using e1) (by simpa using e2))
def allN (n : Nat) : List (Option Nat) := List.replicate n none
theorem tA_data {K : PySem.W.Frag} {σ : L2.St} {H : Hp} {Qv : List V → Hp → Prop} {m : Nat} {ow : Ow} {env : Env} {Q : List D → Env → Prop} {E : XQ} (hk : (ks.all fun x => x.isNone) = true) (s : StOk K H ow σ env) (hq : qs env Q E) (x : Xk K W M σ H m ow env E)
    (k : ∀ (vs : List V) (ds : List D) (H' : Hp) (ow' : Ow) (env' : Env), Stp M m H ow H' ow' → StOk K H' ow' σ env' → Out M env env' → vs.length = ks.length → Rps K (Bs H' ow') vs ds → Q ds env' → Qv vs H') : tA K W M ks qs σ H Qv :=
  ⟨m, ow, env, Q, E, s, hq, fun vs ds H' ow' env' y s' o l1 l2 hv z => k vs ds H' ow' env' y s' o l1 (rps_of l1 l2 fun j v d e1 e2 => (hv j v d e1 e2).1 (by
    have hj : j < ks.length := by have := (List.getElem?_eq_some_iff.mp e1).1; omega
    have e : ks[j]? = some ks[j] := by simp [hj]
    have hn := List.all_eq_true.mp hk ks[j] (List.getElem_mem hj)
    rw [e]
    cases e3 : ks[j] with
    | none => rfl
    | some i => rw [e3] at hn; cases hn)) z, x⟩
def sLst (qs : SemD) : SemE := fun env Q E => qs env (fun ds env1 => Q (.ow .lst ds) env1) E
def sTup (qs : SemD) : SemE := fun env Q E => qs env (fun ds env1 => Q (.fz (.nd .tup ds)) env1) E
theorem q_lst (h : QA X W M ks es qs) (hk : (ks.all fun x => x.isNone) = true := by rfl) (hz : ks.length ≤ sizeLine := by decide) : QE X W M (.List es pos) (sLst qs) :=
  ⟨PE_imp (pe_lst h.run) fun σ H Qv ⟨n, ow, env, Q, E, s, hq, k, x⟩ => tA_data hk s hq x fun vs ds H' ow' env' y s' o l1 r z => ⟨by omega, fun p hp =>
      k _ _ _ (Ow.put ow' p (.tm n)) env' (y.trans (Stp.new hp) (fun _ h => h) nilsub (Nat.le_refl _) (Nat.le_refl _)) (s'.stp0 (n := 0) (Stp.new hp)) o (Tq.newL hp (by omega) r) z⟩⟩
theorem q_tup {x1} (h : QA X W M ks es qs) (hk : (ks.all fun x => x.isNone) = true := by rfl) (hz : ks.length ≤ sizeLine := by decide) : QE X W M (.Tuple es x1 pos) (sTup qs) :=
  ⟨PE_imp (pe_tup h.run) fun σ H Qv ⟨n, ow, env, Q, E, s, hq, k, x⟩ => tA_data hk s hq x fun vs ds H' ow' env' y s' o l1 r z => ⟨by omega, fun p hp =>
    k _ _ _ (Ow.put ow' p .base) env' (y.trans (Stp.new hp) (fun _ h => h) nilsub (Nat.le_refl _) (Nat.le_refl _)) (s'.stp0 (n := 0) (Stp.new hp)) o
      (Tq.fz_.mpr (.tup (by rw [bs_of put_same, upd_same]) (by omega) (r.mono (Stp.bs (M := []) (n := 0) (Stp.new hp))))) z⟩⟩
def OpL (K : PySem.W.Frag) (r : List V → Hp → VK → Prop) (g : List D → (T → Prop) → Prop) : Prop := ∀ (H : Hp) (ow : Ow) (n : Nat) (vs : List V) (ds : List D) (Q : T → Prop) (Qv : VK), Rps K (Bs H ow) vs ds → g ds Q →
  (∀ v w H' ow', Stp [] n H ow H' ow' → Tq K H' ow' (.tm n) v w → Q w → Qv v H') → r vs H Qv
def sB (qs : SemD) (g : List D → (T → Prop) → Prop) : SemE := fun env Q E => qs env (fun ds env1 => g ds fun w => Q w env1) E
theorem opl_run {K : PySem.W.Frag} {r : List V → Hp → VK → Prop} {g : List D → (T → Prop) → Prop} (hg : OpL K r g) (hk : (ks.all fun x => x.isNone) = true) {σ : L2.St} {H : Hp} {Qv : VK} (h : tQ K W M (sB qs g) σ H Qv) : tA K W M ks qs σ H fun vs H1 => r vs H1 Qv := by
  obtain ⟨n, ow, env, Q, E, s, hq, k, x⟩ := h
  exact tA_data hk s hq x fun vs ds H' ow' env' y s' o l1 rr z => hg H' ow' n vs ds _ Qv rr z fun v w H2 ow2 y2 r2 z2 => k v w H2 ow2 env' (y.trans y2 (fun _ h => h) nilsub (Nat.le_refl _) (Nat.le_refl _)) (s'.stp0 y2) o r2 z2
variable {id T' : String} {r : List V → Hp → VK → Prop} {x : Str} {p : Pos} {pa : SemP} {root : Option Nat}
theorem q_bl_ {g : List D → (T → Prop) → Prop} (hc : CallR X (.builtin id) r) (hr : OpL X.K r g) (hg : Gl X x) (hm : X.mg x = none) (hv : bootBuiltins x = some (.builtin id)) (ha : QA X W M ks (e :: es) qs) (hk : (ks.all fun x => x.isNone) = true := by rfl) (hn : x ≠ "__name__" := by decide) (hdb : (x == ("__debug__" : Str)) = false := by decide)
    (he : starEach (e :: es) X.env = (false, eval e X.env) :: starEach es X.env := by rfl) (hpl : (backTo pos (starEach es X.env)).any (·.1) = false := by rfl) : QE X W M (.Call (.Name x p) (e :: es) [] pos) (sB qs g) :=
  ⟨PE_imp (pe_callB hc hg hm hv ha.run hn hdb he hpl) fun _ _ _ h => opl_run hr hk h⟩
theorem q_tyl {g : List D → (T → Prop) → Prop} (hc : CallR X (.type T') r) (hr : OpL X.K r g) (hg : Gl X x) (hm : X.mg x = none) (hv : bootBuiltins x = some (.type T')) (ha : QA X W M ks (e :: es) qs) (hk : (ks.all fun x => x.isNone) = true := by rfl) (hn : x ≠ "__name__" := by decide) (hdb : (x == ("__debug__" : Str)) = false := by decide)
    (he : starEach (e :: es) X.env = (false, eval e X.env) :: starEach es X.env := by rfl) (hpl : (backTo pos (starEach es X.env)).any (·.1) = false := by rfl) : QE X W M (.Call (.Name x p) (e :: es) [] pos) (sB qs g) :=
  ⟨PE_imp (pe_callTy hc hg hm hv ha.run hn hdb he hpl) fun _ _ _ h => opl_run hr hk h⟩
theorem op1_run {K : PySem.W.Frag} {g : T → (T → Prop) → Prop} (hr : Op1 K (fun x H Q => r [x] H Q) g) {σ : L2.St} {H : Hp} {Qv : VK} (h : tQ K W M (s1 pa g) σ H Qv) : tCB r (tCons (tP K W M root pa) tNil) σ H Qv := by
  obtain ⟨n, ow, env, Q, E, s, hq, k, x⟩ := h
  exact ⟨n, ow, env, _, E, s, hq, fun v t pt H' ow' env' y1 s' o r q => hr H' ow' n v t _ Qv (r.ro s') q fun v' w H2 ow2 y2 r3 q3 => k v' w H2 ow2 env' (y1.trans y2 (fun _ h => h) nilsub (Nat.le_refl _) (Nat.le_refl _)) (s'.stp0 y2) o r3 q3, x⟩
theorem q_b1 {g : T → (T → Prop) → Prop} (hc : CallR X (.builtin id) r) (hr : Op1 X.K (fun x H Q => r [x] H Q) g) (hg : Gl X x) (hm : X.mg x = none) (hv : bootBuiltins x = some (.builtin id)) (ha : QP X W M root e pa) (hn : x ≠ "__name__" := by decide) (hdb : (x == ("__debug__" : Str)) = false := by decide)
    (he : starEach [e] X.env = (false, eval e X.env) :: starEach [] X.env := by rfl) (hpl : (backTo pos (starEach [] X.env)).any (·.1) = false := by rfl) : QE X W M (.Call (.Name x p) [e] [] pos) (s1 pa g) :=
  ⟨PE_imp (pe_callB hc hg hm hv (pa_cons ha.run pa_nil he) hn hdb he hpl) fun _ _ _ h => op1_run hr h⟩
theorem q_ty1 {g : T → (T → Prop) → Prop} (hc : CallR X (.type T') r) (hr : Op1 X.K (fun x H Q => r [x] H Q) g) (hg : Gl X x) (hm : X.mg x = none) (hv : bootBuiltins x = some (.type T')) (ha : QP X W M root e pa) (hn : x ≠ "__name__" := by decide) (hdb : (x == ("__debug__" : Str)) = false := by decide)
    (he : starEach [e] X.env = (false, eval e X.env) :: starEach [] X.env := by rfl) (hpl : (backTo pos (starEach [] X.env)).any (·.1) = false := by rfl) : QE X W M (.Call (.Name x p) [e] [] pos) (s1 pa g) :=
  ⟨PE_imp (pe_callTy hc hg hm hv (pa_cons ha.run pa_nil he) hn hdb he hpl) fun _ _ _ h => op1_run hr h⟩
end

def lenG (t : T) (Q : T → Prop) : Prop := match t with
  | .fz (.str x) => x.length ≤ sizeLine ∧ Q (.fz (.int x.length))
  | .fz (.nd .lst ds) => Q (.fz (.int ds.length))
  | .fz (.nd .tup ds) => Q (.fz (.int ds.length))
  | .ow .lst ds => Q (.fz (.int ds.length))
  | .ow .tup ds => Q (.fz (.int ds.length))
  | .nd .lst ts => Q (.fz (.int ts.length))
  | .nd .tup ts => Q (.fz (.int ts.length))
  | _ => False
section
variable {K : PySem.W.Frag} {X : Cx}
def rLenAll (K : PySem.W.Frag) : List V → Hp → VK → Prop := fun xs H Q => (∃ p ys, xs = [.ref p] ∧ (SqL K H p ys ∨ SqT K H p ys) ∧ Q (.int ys.length) H) ∨ (∃ z, xs = [.str z] ∧ z.length ≤ sizeLine ∧ Q (.int z.length) H)
theorem c_len : CallR X (.builtin "len") (rLenAll X.K) := call_len_seq.or call_len_str
theorem g_len : Op1 K (fun x H Q => rLenAll K [x] H Q) lenG := by
  intro H ow n x t Q Qv rx h k
  have fin : ∀ {a : Addr} {vs : List V} {m : Nat}, x = .ref a → (SqL K H a vs ∨ SqT K H a vs) → vs.length = m → Q (.fz (.int m)) → rLenAll K [x] H Qv := fun {a vs m} e c l q => by
    subst e l
    exact .inl ⟨a, vs, rfl, c, k _ _ H ow Stp.refl (Tq.fz_.mpr (.int _)) q⟩
  have kid : ∀ {kd : Kd} {ts : List T}, t = .nd kd ts → ∃ a dx vs, x = .ref a ∧ Cell H a dx kd vs ∧ vs.length = ts.length := fun {kd ts} e => by
    subst e
    obtain ⟨l, S, r⟩ := rx
    cases r with
    | nd c _ r => exact ⟨_, _, _, rfl, c, r.len⟩
  unfold lenG at h
  split at h
  · exact .inr ⟨_, by rw [rx.str], h.1, k _ _ H ow Stp.refl (Tq.fz_.mpr (.int _)) h.2⟩
  · obtain ⟨a, vs, e, c, _, r⟩ := rx.lst rfl
    exact fin e (.inl (.inl (.inl c))) r.len h
  · obtain ⟨a, vs, e, c, _, r⟩ := rx.tup rfl
    exact fin e (.inr c) r.len h
  · obtain ⟨a, vs, e, c, _, r⟩ := rx.lst rfl
    exact fin e (.inl (.inl (.inl c))) r.len h
  · obtain ⟨a, vs, e, c, _, r⟩ := rx.tup rfl
    exact fin e (.inr c) r.len h
  · obtain ⟨a, dx, vs, e, c, l⟩ := kid rfl
    exact fin e (.inl (.inl (.inl c.at_))) l h
  · obtain ⟨a, dx, vs, e, c, l⟩ := kid rfl
    exact fin e (.inr (.inl (.inl c.at_))) l h
  · exact h.elim
def seqT : T → Option (List D)
  | .fz (.nd .lst ds) => some ds
  | .fz (.nd .tup ds) => some ds
  | .ow .lst ds => some ds
  | .ow .tup ds => some ds
  | _ => none
theorem Ro.seq {H : Hp} {ow : Ow} {x : V} {t : T} {ds : List D} (h : Ro K H ow x t) (e : seqT t = some ds) : ∃ a vs, x = .ref a ∧ (SqL K H a vs ∨ SqT K H a vs) ∧ vs.length ≤ sizeLine ∧ Rps K (Bs H ow) vs ds := by
  unfold seqT at e
  split at e <;> first | cases e | skip
  · obtain ⟨a, vs, e, c, z, r⟩ := h.lst (ds := ds) rfl
    exact ⟨a, vs, e, .inl (.inl (.inl c)), z, r⟩
  · obtain ⟨a, vs, e, c, z, r⟩ := h.tup (ds := ds) rfl
    exact ⟨a, vs, e, .inr c, z, r⟩
  · obtain ⟨a, vs, e, c, z, r⟩ := h.lst (ds := ds) rfl
    exact ⟨a, vs, e, .inl (.inl (.inl c)), z, r⟩
  · obtain ⟨a, vs, e, c, z, r⟩ := h.tup (ds := ds) rfl
    exact ⟨a, vs, e, .inr c, z, r⟩
def listG (t : T) (Q : T → Prop) : Prop := match seqT t with
  | some ds => Q (.ow .lst ds)
  | none => False
theorem g_list : Op1 K (fun x H Q => ∃ p ys, [x] = [.ref p] ∧ (SqL K H p ys ∨ SqT K H p ys) ∧ ∀ l, H l = none → Q (.ref l) (upd H l (.lst ys))) listG := by
  intro H ow n x t Q Qv rx h k
  unfold listG at h
  split at h
  · rename_i ds e
    obtain ⟨a, vs, rfl, c, z, r⟩ := rx.seq e
    exact ⟨a, vs, rfl, c, fun p hp => k _ _ _ (Ow.put ow p (.tm n)) (Stp.new hp) (Tq.newL hp z r) h⟩
  · exact h.elim
def tupleG (t : T) (Q : T → Prop) : Prop := match t with
  | .fz (.nd .tup ds) => Q (.fz (.nd .tup ds))
  | t => match shL t with
    | some ds => Q (.fz (.nd .tup ds))
    | none => False
theorem g_tuple : Op1 K (fun x H Q => ∃ p ys, [x] = [.ref p] ∧ ((SqL K H p ys ∧ ∀ l, H l = none → Q (.ref l) (upd H l (.tup ys))) ∨ (SqT K H p ys ∧ Q (.ref p) H))) tupleG := by
  intro H ow n x t Q Qv rx h k
  unfold tupleG at h
  split at h
  · obtain ⟨a, vs, rfl, c, z, r⟩ := rx.tup rfl
    exact ⟨a, vs, rfl, .inr ⟨c, k _ _ H ow Stp.refl (by obtain ⟨l, rx⟩ := rx; exact Tq.fz_.mpr (Tq.fz_.mp rx)) h⟩⟩
  · split at h
    · rename_i ds e
      obtain ⟨a, vs, rfl, c, z, r⟩ := rx.lst e
      exact ⟨a, vs, rfl, .inl ⟨.inl (.inl c), fun p hp => k _ _ _ (Ow.put ow p .base) (Stp.new hp) (Tq.fz_.mpr (.tup (by rw [bs_of put_same, upd_same]) z (r.mono (Stp.bs (M := []) (n := 0) (Stp.new hp))))) h⟩⟩
    · exact h.elim
theorem ints_of {B : Hp} : ∀ {vs : List V} {ns : List Int}, Rps K B vs (ns.map .int) → vs = ns.map V.int
  | _, [], .nil => rfl
  | _, n :: ns, .cons r s => by
    cases r
    rw [List.map_cons, ints_of s]
theorem bls_of {B : Hp} : ∀ {vs : List V} {ns : List Bool}, Rps K B vs (ns.map .bl) → vs = ns.map V.bl
  | _, [], .nil => rfl
  | _, n :: ns, .cons r s => by
    cases r
    rw [List.map_cons, bls_of s]
theorem of_ints {B : Hp} : ∀ ns : List Int, Rps K B (ns.map V.int) (ns.map .int)
  | [] => .nil
  | n :: ns => .cons (.int n) (of_ints ns)
def sumG (t : T) (Q : T → Prop) : Prop := ∃ ns : List Int, shL t = some (ns.map .int) ∧ Q (.fz (.int ns.sum))
theorem g_sum : Op1 K (fun x H Q => rSum K [x] H Q) sumG := by
  intro H ow n x t Q Qv rx ⟨ns, e, h⟩ k
  obtain ⟨a, vs, rfl, c, z, r⟩ := rx.lst e
  have := ints_of r
  subst this
  exact ⟨a, ns, rfl, .inl (.inl c), k _ _ H ow Stp.refl (Tq.fz_.mpr (.int _)) h⟩
def maxG (t : T) (Q : T → Prop) : Prop := ∃ ns : List Int, shL t = some (ns.map .int) ∧ 0 < ns.length ∧ ∀ m, m ∈ ns → (∀ y, y ∈ ns → y ≤ m) → Q (.fz (.int m))
def minG (t : T) (Q : T → Prop) : Prop := ∃ ns : List Int, shL t = some (ns.map .int) ∧ 0 < ns.length ∧ ∀ m, m ∈ ns → (∀ y, y ∈ ns → m ≤ y) → Q (.fz (.int m))
theorem g_max : Op1 K (fun x H Q => rMax K [x] H Q) maxG := by
  intro H ow n x t Q Qv rx ⟨ns, e, h0, h⟩ k
  obtain ⟨a, vs, rfl, c, z, r⟩ := rx.lst e
  have := ints_of r
  subst this
  exact ⟨a, ns, rfl, .inl (.inl c), h0, fun m h1 h2 => k _ _ H ow Stp.refl (Tq.fz_.mpr (.int _)) (h m h1 h2)⟩
theorem g_min : Op1 K (fun x H Q => rMin K [x] H Q) minG := by
  intro H ow n x t Q Qv rx ⟨ns, e, h0, h⟩ k
  obtain ⟨a, vs, rfl, c, z, r⟩ := rx.lst e
  have := ints_of r
  subst this
  exact ⟨a, ns, rfl, .inl (.inl c), h0, fun m h1 h2 => k _ _ H ow Stp.refl (Tq.fz_.mpr (.int _)) (h m h1 h2)⟩
def allG (t : T) (Q : T → Prop) : Prop := ∃ bs : List Bool, shL t = some (bs.map .bl) ∧ Q (.fz (.bl (bs.all id)))
def anyG (t : T) (Q : T → Prop) : Prop := ∃ bs : List Bool, shL t = some (bs.map .bl) ∧ Q (.fz (.bl (bs.any id)))
theorem g_all : Op1 K (fun x H Q => rAll K [x] H Q) allG := by
  intro H ow n x t Q Qv rx ⟨ns, e, h⟩ k
  obtain ⟨a, vs, rfl, c, z, r⟩ := rx.lst e
  have := bls_of r
  subst this
  exact ⟨a, ns, rfl, .inl (.inl c), k _ _ H ow Stp.refl (Tq.fz_.mpr (.bl _)) h⟩
theorem g_any : Op1 K (fun x H Q => rAny K [x] H Q) anyG := by
  intro H ow n x t Q Qv rx ⟨ns, e, h⟩ k
  obtain ⟨a, vs, rfl, c, z, r⟩ := rx.lst e
  have := bls_of r
  subst this
  exact ⟨a, ns, rfl, .inl (.inl c), k _ _ H ow Stp.refl (Tq.fz_.mpr (.bl _)) h⟩
def absG (t : T) (Q : T → Prop) : Prop := match t with
  | .fz (.int i) => Q (.fz (.int (if i < 0 then -i else i)))
  | _ => False
theorem g_abs : Op1 K (fun x H Q => ∃ i, [x] = [V.int i] ∧ Q (.int (if i < 0 then -i else i)) H) absG := by
  intro H ow n x t Q Qv rx h k
  unfold absG at h
  split at h
  · exact ⟨_, by rw [rx.int], k _ _ H ow Stp.refl (Tq.fz_.mpr (.int _)) h⟩
  · exact h.elim
def intG1 (t : T) (Q : T → Prop) : Prop := match t with
  | .fz (.int i) => Q (.fz (.int i))
  | .fz (.bl b) => Q (.fz (.int (if b then 1 else 0)))
  | _ => False
theorem g_int1 : Op1 K (fun x H Q => (∃ i, [x] = [V.int i] ∧ Q (.int i) H) ∨ ∃ k, [x] = [V.bl k] ∧ Q (.int (if k then 1 else 0)) H) intG1 := by
  intro H ow n x t Q Qv rx h k
  unfold intG1 at h
  split at h
  · exact .inl ⟨_, by rw [rx.int], k _ _ H ow Stp.refl (Tq.fz_.mpr (.int _)) h⟩
  · exact .inr ⟨_, by rw [rx.bl], k _ _ H ow Stp.refl (Tq.fz_.mpr (.int _)) h⟩
  · exact h.elim
def max2G (ds : List D) (Q : T → Prop) : Prop := match ds with
  | [.int i, .int j] => Q (.fz (.int (max i j)))
  | _ => False
def min2G (ds : List D) (Q : T → Prop) : Prop := match ds with
  | [.int i, .int j] => Q (.fz (.int (min i j)))
  | _ => False
theorem g_max2 : OpL K (fun xs H Q => ∃ i j, xs = [.int i, .int j] ∧ Q (.int (if j > i then j else i)) H) max2G := by
  intro H ow n vs ds Q Qv r h k
  unfold max2G at h
  split at h
  · rename_i i j
    cases r with
    | cons r1 r => cases r with
      | cons r2 r =>
        cases r
        cases r1
        cases r2
        refine ⟨i, j, rfl, k _ _ H ow Stp.refl (Tq.fz_.mpr ?_) h⟩
        have e : (if j > i then j else i) = max i j := by split <;> omega
        rw [e]
        exact .int _
  · exact h.elim
theorem g_min2 : OpL K (fun xs H Q => ∃ i j, xs = [.int i, .int j] ∧ Q (.int (if j < i then j else i)) H) min2G := by
  intro H ow n vs ds Q Qv r h k
  unfold min2G at h
  split at h
  · rename_i i j
    cases r with
    | cons r1 r => cases r with
      | cons r2 r =>
        cases r
        cases r1
        cases r2
        refine ⟨i, j, rfl, k _ _ H ow Stp.refl (Tq.fz_.mpr ?_) h⟩
        have e : (if j < i then j else i) = min i j := by split <;> omega
        rw [e]
        exact .int _
  · exact h.elim
end

def asm : List (Option Nat) → List D → Env → Option (List T)
  | [], [], _ => some []
  | none :: ks, d :: ds, env => match asm ks ds env with
    | some ts => some (.fz d :: ts)
    | none => none
  | some i :: ks, _ :: ds, env => match env[i]? with
    | some (some t) => match asm ks ds env with
      | some ts => some (t :: ts)
      | none => none
    | _ => none
  | _, _, _ => none
theorem asm_get : ∀ {ks : List (Option Nat)} {ds : List D} {env : Env} {ts : List T}, asm ks ds env = some ts → ts.length = ks.length ∧ ∀ (j : Nat) (t : T), ts[j]? = some t → (∃ d, ks[j]? = some none ∧ ds[j]? = some d ∧ t = .fz d) ∨ ∃ i, ks[j]? = some (some i) ∧ env[i]? = some (some t)
  | [], [], env, ts, h => by cases h; exact ⟨rfl, fun j t e => by simp at e⟩
  | none :: ks, d :: ds, env, ts, h => by
    simp only [asm] at h
    split at h
    · rename_i us e
      cases h
      obtain ⟨h1, h2⟩ := asm_get e
      refine ⟨by rw [List.length_cons, List.length_cons, h1], fun j t et => ?_⟩
      cases j with
      | zero => simp at et; subst et; exact .inl ⟨d, rfl, rfl, rfl⟩
      | succ j => simpa using h2 j t (by simpa using et)
    · cases h
  | some i :: ks, d :: ds, env, ts, h => by
    simp only [asm] at h
    split at h
    · rename_i u eu
      split at h
      · rename_i us e
        cases h
        obtain ⟨h1, h2⟩ := asm_get e
        refine ⟨by rw [List.length_cons, List.length_cons, h1], fun j t et => ?_⟩
        cases j with
        | zero => simp at et; subst et; exact .inr ⟨i, rfl, eu⟩
        | succ j => simpa using h2 j t (by simpa using et)
      · cases h
    · cases h
  | [], _ :: _, _, _, h => by simp [asm] at h
  | none :: _, [], _, _, h => by simp [asm] at h
  | some _ :: _, [], _, _, h => by simp [asm] at h
def putO : List Nat → List T → Env → Env
  | i :: is, t :: ts, env => putO is ts (env.set i (some t))
  | _, _, env => env
theorem putO_len : ∀ (cs : List Nat) (ts : List T) (env : Env), (putO cs ts env).length = env.length
  | [], _, _ => by simp [putO]
  | _ :: _, [], _ => by simp [putO]
  | i :: is, t :: ts, env => by simp [putO, putO_len is ts]
theorem putO_out : ∀ (cs : List Nat) (ts : List T) (env : Env) (i : Nat), i ∉ cs → (putO cs ts env)[i]? = env[i]?
  | [], _, _, _, _ => by simp [putO]
  | _ :: _, [], _, _, _ => by simp [putO]
  | c :: cs, t :: ts, env, i, h => by
    simp only [putO]
    rw [putO_out cs ts _ i fun z => h (List.mem_cons_of_mem _ z), List.getElem?_set_ne fun z => h (by rw [z]; exact List.mem_cons_self)]
theorem putO_in : ∀ (cs : List Nat) (ts : List T) (env : Env) (i : Nat) (t : T), cs.Nodup → ts.length = cs.length → i ∈ cs → (putO cs ts env)[i]? = some (some t) → ∃ j : Nat, cs[j]? = some i ∧ ts[j]? = some t
  | [], _, _, _, _, _, _, h, _ => by simp at h
  | c :: cs, [], _, _, _, _, h, _, _ => by simp at h
  | c :: cs, u :: ts, env, i, t, nd, hl, hi, h => by
    rw [List.nodup_cons] at nd
    simp only [putO] at h
    by_cases e : i ∈ cs
    · obtain ⟨j, h1, h2⟩ := putO_in cs ts _ i t nd.2 (by simpa using hl) e h
      exact ⟨j + 1, by simpa using h1, by simpa using h2⟩
    · have e1 : i = c := by rcases List.mem_cons.mp hi with z | z; exact z; exact absurd z e
      subst e1
      rw [putO_out _ _ _ _ e] at h
      by_cases hl2 : i < env.length
      · rw [List.getElem?_set_self hl2] at h
        cases h
        exact ⟨0, rfl, rfl⟩
      · rw [List.getElem?_eq_none (by simpa using hl2)] at h
        cases h
def okK (ks : List (Option Nat)) (io cs : List Nat) : Bool := decide (cs.Nodup) && decide (io.length = cs.length) && (io.zip cs).all (fun p => decide (ks[p.1]? = some (some p.2))) && (List.range ks.length).all fun j => match ks[j]? with
  | some (some i) => decide (j ∈ io) && decide (i ∈ cs)
  | _ => true
def sCall (spec : SemF) (ks : List (Option Nat)) (cs : List Nat) (qs : SemD) : SemE := fun env Q E => qs env (fun ds env1 => match asm ks ds env1 with
  | some args => spec args (fun t outs => Q t (putO cs outs env1)) (fun r outs => E r (putO cs outs env1))
  | none => False) E
def labIn (io cs : List Nat) : Lab → Lab
  | .base => .base
  | .sl i => match (cs.zip io).lookup i with
    | some p => .sl p
    | none => .fr
  | _ => .fr
def labBack (io cs : List Nat) (n : Nat) (old : Lab) : Lab → Lab
  | .fr => old
  | .base => .base
  | .sl p => match (io.zip cs).lookup p with
    | some i => .sl i
    | none => .tm n
  | .tm _ => .tm n
theorem lookup_zip {α β : Type} [BEq α] [LawfulBEq α] : ∀ {as : List α} {bs : List β} {j : Nat} {a : α} {b : β}, as.Nodup → as[j]? = some a → bs[j]? = some b → (as.zip bs).lookup a = some b
  | [], _, _, _, _, _, h, _ => by simp at h
  | _ :: _, [], _, _, _, _, _, h => by simp at h
  | x :: as, y :: bs, 0, a, b, _, h1, h2 => by
    simp at h1 h2
    subst h1 h2
    simp
  | x :: as, y :: bs, j + 1, a, b, nd, h1, h2 => by
    rw [List.nodup_cons] at nd
    have h1' : as[j]? = some a := by simpa using h1
    have ne : (a == x) = false := by
      rw [beq_eq_false_iff_ne]
      intro e
      subst e
      exact nd.1 (List.mem_of_getElem? h1')
    rw [List.zip_cons_cons, List.lookup_cons, ne]
    exact lookup_zip nd.2 h1' (by simpa using h2)
theorem lookup_zip_none {α β : Type} [BEq α] [LawfulBEq α] : ∀ {as : List α} {bs : List β} {a : α}, a ∉ as → (as.zip bs).lookup a = none
  | [], _, _, _ => by simp
  | _ :: _, [], _, _ => by simp
  | x :: as, y :: bs, a, h => by
    have ne : (a == x) = false := by
      rw [beq_eq_false_iff_ne]
      intro e
      exact h (by rw [e]; exact List.mem_cons_self)
    rw [List.zip_cons_cons, List.lookup_cons, ne]
    exact lookup_zip_none fun z => h (List.mem_cons_of_mem _ z)
section
variable {X : Cx} {W : WX} {M : List Nat} {k : Nat} {f : Addr} {fd : FuncData} {ps : List Str} {io cs : List Nat} {spec : SemF} {ks : List (Option Nat)} {e : Expr} {es : List Expr} {qs : SemD} {x : Str} {p pos : Pos}
theorem call_run {K : PySem.W.Frag} {n0 : Nat} (hio : io.Nodup) (hk : okK ks io cs = true) (hn : ks.length = n0) {σ : L2.St} {H1 : Hp} {Qv : VK} {m : Nat} {ow1 : Ow} {env1 : Env} {Q : T → Env → Prop} {E : XQ} {vs : List V} {ds : List D} {args : List T} (s1 : StOk K H1 ow1 σ env1) (l1 : vs.length = ks.length)
    (hv : ∀ (j : Nat) (v : V) (d : D), vs[j]? = some v → ds[j]? = some d → (ks[j]? = some none → Rp K (Bs H1 ow1) v d) ∧ ∀ i, ks[j]? = some (some i) → σ[i]? = some (some v))
    (l2 : ds.length = ks.length) (ha : asm ks ds env1 = some args) (hs : spec args (fun t outs => Q t (putO cs outs env1)) (fun r outs => E r (putO cs outs env1)))
    (kk : ∀ v t H' ow' env', Stp cs m H1 ow1 H' ow' → StOk K H' ow' σ env' → Out cs env1 env' → Tq K H' ow' (.tm m) v t → Q t env' → Qv v H') (xx : Xk K W cs σ H1 m ow1 env1 E) : spQ K n0 io spec vs H1 Qv (fun cls d H' => W cls d σ H') := by
  unfold okK at hk
  simp only [Bool.and_eq_true, decide_eq_true_eq] at hk
  obtain ⟨⟨⟨nd, len⟩, hz⟩, hall⟩ := hk
  obtain ⟨a1, a2⟩ := asm_get ha
  have slot : ∀ {i p : Nat} {j : Nat}, cs[j]? = some i → io[j]? = some p → labIn io cs (.sl i) = .sl p := fun {i p j} e1 e2 => by
    simp only [labIn]
    rw [lookup_zip nd e1 e2]
  have back : ∀ {i p j : Nat} {old : Lab}, cs[j]? = some i → io[j]? = some p → labBack io cs m old (.sl p) = .sl i := fun {i p j old} e1 e2 => by
    simp only [labBack]
    rw [lookup_zip hio e2 e1]
  have kz : ∀ {j i p : Nat}, cs[j]? = some i → io[j]? = some p → ks[p]? = some (some i) := fun {j i p} e1 e2 => by
    have hm : (p, i) ∈ io.zip cs := List.mem_of_getElem? (i := j) (by rw [List.getElem?_zip_eq_some]; exact ⟨e2, e1⟩)
    exact of_decide_eq_true (List.all_eq_true.mp hz _ hm)
  have bsIn : Same (Bs H1 ow1) (Bs H1 fun a => labIn io cs (ow1 a)) := fun a o e => by
    obtain ⟨e1, e2⟩ := bs_some e
    have : labIn io cs (ow1 a) = .base := by rw [e1]; rfl
    unfold Bs
    rw [if_pos this]
    exact e2
  -- what is behind the call
  have after : ∀ {H2 : Hp} {owc : Ow}, Fs H1 (fun a => labIn io cs (ow1 a)) H2 owc → Stp cs m H1 ow1 H2 (fun a => labBack io cs m (ow1 a) (owc a)) ∧ Same (Bs H2 owc) (Bs H2 fun a => labBack io cs m (ow1 a) (owc a)) := fun {H2 owc} fs => by
    refine ⟨fun a o e q => ?_, fun a o e => ?_⟩
    · have key : (labIn io cs (ow1 a) = .fr ∨ labIn io cs (ow1 a) = .base) ∧ labBack io cs m (ow1 a) (labIn io cs (ow1 a)) = ow1 a := by
        cases eo : ow1 a with
        | fr => exact ⟨.inl rfl, rfl⟩
        | base => exact ⟨.inr rfl, rfl⟩
        | tm k => exact ⟨.inl rfl, rfl⟩
        | sl i =>
          rw [eo] at q
          have hi : i ∉ cs := q
          have : labIn io cs (.sl i) = .fr := by simp only [labIn]; rw [lookup_zip_none hi]
          rw [this]
          exact ⟨.inl rfl, rfl⟩
      obtain ⟨e1, e2⟩ := fs a o e key.1
      refine ⟨e1, ?_⟩
      show labBack io cs m (ow1 a) (owc a) = ow1 a
      rw [e2]
      exact key.2
    · obtain ⟨e1, e2⟩ := bs_some e
      have : labBack io cs m (ow1 a) (owc a) = .base := by rw [e1]; rfl
      unfold Bs
      rw [if_pos this]
      exact e2
  have state : ∀ {H2 : Hp} {owc : Ow} {outs : List T}, Fs H1 (fun a => labIn io cs (ow1 a)) H2 owc → outs.length = io.length → (∀ (j i : Nat) (u : T), io[j]? = some i → outs[j]? = some u → ∃ v, vs[i]? = some v ∧ Tq K H2 owc (.sl i) v u) →
      StOk K H2 (fun a => labBack io cs m (ow1 a) (owc a)) σ (putO cs outs env1) ∧ Out cs env1 (putO cs outs env1) := fun {H2 owc outs} fs lo ho => by
    obtain ⟨y, bsB⟩ := after fs
    have out : Out cs env1 (putO cs outs env1) := ⟨putO_len _ _ _, fun i hi => putO_out _ _ _ _ hi⟩
    refine ⟨s1.stp y out fun i t hi e => ?_, out⟩
    obtain ⟨j, ej, et⟩ := putO_in cs outs env1 i t nd (lo.trans len) hi e
    have hj : j < io.length := by have := (List.getElem?_eq_some_iff.mp et).1; omega
    have ep : io[j]? = some io[j] := by simp [hj]
    obtain ⟨v, ev, r⟩ := ho j io[j] t ep et
    have kp := kz ej ep
    have hp : io[j] < ds.length := by have := (List.getElem?_eq_some_iff.mp ev).1; omega
    refine ⟨v, (hv io[j] v ds[io[j]] ev (by simp [hp])).2 i kp, Car.tq ⟨bsB, fun a o _ eo => ⟨by assumption, ?_⟩⟩ r⟩
    show labBack io cs m (ow1 a) (owc a) = .sl i
    rw [eo]
    exact back ej ep
  refine ⟨by omega, fun a => labIn io cs (ow1 a), args, _, _, by omega, fun j t et => ?_, hs, fun v t H2 owc outs fs r lo ho z => ?_, fun r d H2 owc outs fs rz lo ho z => ?_⟩
  · have hj : j < vs.length := by have := (List.getElem?_eq_some_iff.mp et).1; omega
    have ev : vs[j]? = some vs[j] := by simp [hj]
    refine ⟨vs[j], ev, ?_⟩
    have hjd : j < ds.length := by omega
    have ed : ds[j]? = some ds[j] := by simp [hjd]
    rcases a2 j t et with ⟨d, ek, ed', rfl⟩ | ⟨i, ek, ee⟩
    · exact Tq.fz_.mpr (((hv j _ d ev ed').1 ek).mono bsIn)
    · have e1 := (hv j _ _ ev ed).2 i ek
      obtain ⟨w, e2, r⟩ := s1.at_ i t ee
      rw [e1] at e2
      cases e2
      have hall' := List.all_eq_true.mp hall j (List.mem_range.mpr (by omega))
      rw [ek] at hall'
      simp only [Bool.and_eq_true, decide_eq_true_eq] at hall'
      -- the place of i among cs is that of j among io
      obtain ⟨c, hc⟩ := List.getElem?_of_mem hall'.1
      have hcs : c < cs.length := by have := (List.getElem?_eq_some_iff.mp hc).1; omega
      have ec : cs[c]? = some cs[c] := by simp [hcs]
      have kp := kz ec hc
      rw [ek] at kp
      have ei : i = cs[c] := Option.some.inj (Option.some.inj kp)
      exact Car.tq ⟨bsIn, fun a o h eo => ⟨h, by
        show labIn io cs (ow1 a) = .sl j
        rw [eo, ei]
        exact slot ec hc⟩⟩ r
  · obtain ⟨y, bsB⟩ := after fs
    obtain ⟨s2, o2⟩ := state fs lo ho
    exact kk v t H2 _ _ y s2 o2 (Car.tq ⟨bsB, fun a o h eo => ⟨h, by
      show labBack io cs m (ow1 a) (owc a) = .tm m
      rw [eo]
      rfl⟩⟩ r) z
  · obtain ⟨y, bsB⟩ := after fs
    obtain ⟨s2, o2⟩ := state fs lo ho
    refine xx r d H2 _ _ y s2 o2 ?_ z
    cases d with
    | none => exact rz
    | some d =>
      obtain ⟨ws, e1, e2, e3⟩ := rz
      exact ⟨ws, bsB _ _ e1, e2, e3.mono bsB⟩
theorem q_call (F : QFn X.prog X.w X.K X.mg X.base k f fd ps io spec) (tk : L2.Takes X W) (hr : Room k X.A) (hG : X.A.guards = some []) (hg : Gl X x) (hm : X.mg x = some (.ref f)) (hk : PySem.W.keepIn X.K (.ref f) = true) (hb : Binds X.K fd ps [])
    (ha : QA X W M ks (e :: es) qs) (cs : List Nat) (hio : io.Nodup := by decide) (hK : okK ks io cs = true := by decide) (hn : ks.length = ps.length := by rfl) (hdb : (x == ("__debug__" : Str)) = false := by decide) (he : starEach (e :: es) X.env = (false, eval e X.env) :: starEach es X.env := by rfl)
    (hpl : (backTo pos (starEach es X.env)).any (·.1) = false := by rfl) : QE X W (M ++ cs) (.Call (.Name x p) (e :: es) [] pos) (sCall spec ks cs qs) :=
  ⟨PE_imp (pe_callG F hr hG hg hm hk hb tk ha.run hdb he hpl) fun σ H Qv ⟨n, ow, env, Q, E, st, hq, kk, xx⟩ => ⟨n, ow, env, _, E, st, hq, fun vs ds H1 ow1 env1 y1 s1 o1 l1 l2 hv z => by
    split at z
    · rename_i args ea
      exact call_run hio hK hn s1 l1 hv l2 ea z (fun v t H2 ow2 env2 y2 s2 o2 r2 z2 => kk v t H2 ow2 env2 (y1.trans y2 subl subr (Nat.le_refl _) (Nat.le_refl _)) s2 (o1.trans o2 subl subr) r2 z2) (xx.step y1 o1 subl subr (Nat.le_refl _) (Nat.le_refl _))
    · exact z.elim, fun r d H' ow' env' y s' o => xx r d H' ow' env' (y.mono subl (Nat.le_refl _)) s' (o.mono subl)⟩⟩
end
end QV

set_option Elab.async false
set_option linter.all false
set_option maxRecDepth 100000
set_option maxHeartbeats 2000000
namespace QV
open PySem L2

def wipeE (env : Env) : List Nat → Env
  | [] => env
  | v :: vs => (wipeE env vs).set v none
def rstE (e0 : Env) : List Nat → Env → Env
  | [], e => e
  | v :: vs, e => (rstE e0 vs e).set v ((e0[v]?).getD none)
theorem wipeE_len (env : Env) : ∀ vs, (wipeE env vs).length = env.length
  | [] => rfl
  | v :: vs => by unfold wipeE; rw [List.length_set, wipeE_len env vs]
theorem rstE_len (e0 : Env) : ∀ vs (e : Env), (rstE e0 vs e).length = e.length
  | [], _ => rfl
  | v :: vs, e => by unfold rstE; rw [List.length_set, rstE_len e0 vs e]
theorem wipeE_some {env : Env} {i : Nat} {t : T} : ∀ {vs : List Nat}, (wipeE env vs)[i]? = some (some t) → env[i]? = some (some t) ∧ i ∉ vs
  | [], h => ⟨h, by simp⟩
  | v :: vs, h => by
    unfold wipeE at h
    by_cases hi : v = i
    · subst hi
      by_cases hv : v < (wipeE env vs).length
      · rw [List.getElem?_set_self hv] at h; cases h
      · rw [List.getElem?_eq_none (by simpa using hv)] at h; cases h
    · rw [List.getElem?_set_ne hi] at h
      obtain ⟨h1, h2⟩ := wipeE_some h
      exact ⟨h1, by simp only [List.mem_cons, not_or]; exact ⟨fun e => hi e.symm, h2⟩⟩
theorem rstE_out {e0 : Env} {i : Nat} : ∀ {vs : List Nat} {e : Env}, i ∉ vs → (rstE e0 vs e)[i]? = e[i]?
  | [], _, _ => rfl
  | v :: vs, e, h => by
    unfold rstE
    rw [List.getElem?_set_ne fun z => h (by rw [z]; exact List.mem_cons_self)]
    exact rstE_out fun z => h (List.mem_cons_of_mem _ z)
theorem rstE_in {e0 : Env} {i : Nat} {t : T} : ∀ {vs : List Nat} {e : Env}, i ∈ vs → (rstE e0 vs e)[i]? = some (some t) → e0[i]? = some (some t)
  | [], _, h, _ => by simp at h
  | v :: vs, e, hi, h => by
    unfold rstE at h
    by_cases hv : v = i
    · subst hv
      by_cases hl : v < (rstE e0 vs e).length
      · rw [List.getElem?_set_self hl] at h
        cases e1 : e0[v]? with
        | none => rw [e1] at h; cases h
        | some u => rw [e1] at h; exact h
      · rw [List.getElem?_eq_none (by simpa using hl)] at h; cases h
    · rw [List.getElem?_set_ne hv] at h
      exact rstE_in ((List.mem_cons.mp hi).resolve_left fun z => hv z.symm) h
theorem wipeE_out {env : Env} {i : Nat} : ∀ {vs : List Nat}, i ∉ vs → (wipeE env vs)[i]? = env[i]?
  | [], _ => rfl
  | v :: vs, h => by
    unfold wipeE
    rw [List.getElem?_set_ne fun z => h (by rw [z]; exact List.mem_cons_self)]
    exact wipeE_out fun z => h (List.mem_cons_of_mem _ z)
theorem wipe_in {σ : L2.St} {i : Nat} : ∀ {vs : List Nat}, i ∈ vs → i < σ.length → (wipe σ vs)[i]? = some none
  | [], h, _ => by simp at h
  | v :: vs, h, hl => by
    unfold wipe
    by_cases hv : v = i
    · subst hv
      exact List.getElem?_set_self (by rw [wipe_length]; exact hl)
    · rw [List.getElem?_set_ne hv]
      exact wipe_in ((List.mem_cons.mp h).resolve_left fun z => hv z.symm) hl
theorem wipe_tch {SS vs : List Nat} {σ σ2 : L2.St} (h : Tch SS (wipe σ vs) σ2) (hs : ∀ i ∈ SS, i ∈ vs) : wipe σ2 vs = wipe σ vs := by
  apply List.ext_getElem?
  intro i
  have l : σ2.length = σ.length := h.len.trans (wipe_length σ vs)
  by_cases hi : i ∈ vs
  · by_cases hl : i < σ.length
    · rw [wipe_in hi hl, wipe_in hi (by omega)]
    · rw [List.getElem?_eq_none (by rw [wipe_length]; omega), List.getElem?_eq_none (by rw [wipe_length]; omega)]
  · rw [wipe_out hi, h.eq i fun z => hi (hs i z)]
section
variable {K : PySem.W.Frag} {H H' : Hp} {ow ow' : Ow} {σ σ2 : L2.St} {env env' : Env} {vs SS : List Nat}
theorem StOk.wipe (s : StOk K H ow σ env) : StOk K H ow (L2.wipe σ vs) (wipeE env vs) := ⟨by rw [wipeE_len, wipe_length]; exact s.len, fun i t e => by
  obtain ⟨e1, hi⟩ := wipeE_some e
  obtain ⟨v, e2, r⟩ := s.at_ i t e1
  exact ⟨v, by rw [wipe_out hi]; exact e2, r⟩⟩
theorem StOk.rst (s : StOk K H ow σ env) (s2 : StOk K H' ow' σ2 env') (tc : Tch SS (L2.wipe σ vs) σ2) (hs : ∀ i ∈ SS, i ∈ vs) (car : ∀ i ∈ vs, Car H H' ow ow' (.sl i) (.sl i)) : StOk K H' ow' σ (rstE env vs env') := ⟨by rw [rstE_len, s2.len, tc.len, wipe_length], fun i t e => by
  by_cases hi : i ∈ vs
  · obtain ⟨v, e1, r⟩ := s.at_ i t (rstE_in hi e)
    exact ⟨v, e1, (car i hi).tq r⟩
  · rw [rstE_out hi] at e
    obtain ⟨v, e1, r⟩ := s2.at_ i t e
    rw [tc.eq i fun z => hi (hs i z), wipe_out hi] at e1
    exact ⟨v, e1, r⟩⟩
end
abbrev noX : XQ := fun _ _ => False
abbrev W0 : WX := fun _ _ _ _ => False
theorem xk0 {K : PySem.W.Frag} {M : List Nat} {σ : L2.St} {H : Hp} {n : Nat} {ow : Ow} {env : Env} {W : WX} : Xk K W M σ H n ow env noX := fun _ _ _ _ _ _ _ _ _ z => z.elim
structure QTs (X : Cx) (W : WX) (M : List Nat) (ifs : List Expr) (q : SemT) : Prop where
  run : PTs X ifs (tT X.K W M q)
def sYes : SemT := fun env Q _ => Q true env
theorem PTs_imp {X : Cx} {e : List Expr} {t t' : TT} (h : PTs X e t) (f : ∀ σ H Q, t' σ H Q → t σ H Q) : PTs X e t' := ⟨fun pins s σ H Q I q => h.run pins s σ H Q I (f _ _ _ q)⟩
theorem ts_nil {X : Cx} {W : WX} : QTs X W [] [] sYes := ⟨PTs_imp pts_nil fun σ H Qv ⟨n, ow, env, Q, E, s, hq, k, x⟩ => k true H ow env Stp.refl s Out.refl hq⟩
theorem ts_one {X : Cx} {W : WX} {M : List Nat} {e : Expr} {q : SemT} (h : QT X W M e q) : QTs X W M [e] q := ⟨pts_one h.run⟩
inductive LcG (g : SemG) (t : SemT) (q : SemE) (vs : List Nat) (Q : T → Env → Prop) (ds : List D) (env1 : Env) : Prop
  | mk (h : ∃ I : Nat → List D → Env → Prop, I 0 [] env1 ∧
  (∀ j d acc env', ds[j]? = some d → I j acc env' → g d (wipeE env' vs) fun env2 => t env2 (fun b env3 => (b = true → q env3 (fun w env4 => match w with
    | .fz e => I (j + 1) (acc ++ [e]) (rstE env' vs env4)
    | _ => False) noX) ∧ (b = false → I (j + 1) acc (rstE env' vs env3))) noX) ∧ ∀ acc env', I ds.length acc env' → Q (.ow .lst acc) env')
  | no (h : False)
theorem LcG.ex {g : SemG} {t : SemT} {q : SemE} {vs : List Nat} {Q : T → Env → Prop} {ds : List D} {env1 : Env} : LcG g t q vs Q ds env1 → ∃ I : Nat → List D → Env → Prop, I 0 [] env1 ∧
  (∀ j d acc env', ds[j]? = some d → I j acc env' → g d (wipeE env' vs) fun env2 => t env2 (fun b env3 => (b = true → q env3 (fun w env4 => match w with
    | .fz e => I (j + 1) (acc ++ [e]) (rstE env' vs env4)
    | _ => False) noX) ∧ (b = false → I (j + 1) acc (rstE env' vs env3))) noX) ∧ ∀ acc env', I ds.length acc env' → Q (.ow .lst acc) env'
  | .mk h => h
  | .no h => h.elim
def sLc (qi : SemI) (g : SemG) (t : SemT) (q : SemE) (vs : List Nat) : SemE := fun env Q E => qi env (fun ds env1 => LcG g t q vs Q ds env1) E
theorem LcG.fr {g : SemG} {t : SemT} {q : SemE} {vs : List Nat} {Q : T → Env → Prop} {ds : List D} {env : Env} (ms : List Nat) (I : Nat → List D → List (Option T) → Prop) (h0 : ∃ us, env = putE env ms us ∧ I 0 [] us)
    (hs : ∀ j d acc us, ds[j]? = some d → I j acc us → g d (wipeE (putE env ms us) vs) fun env2 => t env2 (fun b env3 => (b = true → q env3 (fun w env4 => match w with
    | .fz e => ∃ us', rstE (putE env ms us) vs env4 = putE env ms us' ∧ I (j + 1) (acc ++ [e]) us'
    | _ => False) noX) ∧ (b = false → ∃ us', rstE (putE env ms us) vs env3 = putE env ms us' ∧ I (j + 1) acc us')) noX) (he : ∀ acc us, I ds.length acc us → Q (.ow .lst acc) (putE env ms us)) : LcG g t q vs Q ds env :=
  .mk ⟨fun j acc e => ∃ us, e = putE env ms us ∧ I j acc us, h0, fun j d acc env' hd ⟨us, e, i⟩ => by subst e; exact hs j d acc us hd i, fun acc env' ⟨us, e, i⟩ => by subst e; exact he acc us i⟩
theorem flat_some {ds : List D} {f : D → Option D} {j : Nat} {d e : D} (hd : ds[j]? = some d) (hf : f d = some e) : (ds.take j).filterMap f ++ [e] = (ds.take (j + 1)).filterMap f := by
  rw [List.take_add_one, hd, List.filterMap_append]; simp [hf]
theorem flat_none {ds : List D} {f : D → Option D} {j : Nat} {d : D} (hd : ds[j]? = some d) (hf : f d = none) : (ds.take j).filterMap f = (ds.take (j + 1)).filterMap f := by
  rw [List.take_add_one, hd, List.filterMap_append]; simp [hf]
theorem LcG.flat {g : SemG} {t : SemT} {q : SemE} {vs : List Nat} {Q : T → Env → Prop} {ds : List D} {env : Env} (f : D → Option D)
    (hs : ∀ j d, ds[j]? = some d → g d (wipeE env vs) fun env2 => t env2 (fun b env3 => (b = true → q env3 (fun w env4 => match w with
    | .fz e => (ds.take j).filterMap f ++ [e] = (ds.take (j + 1)).filterMap f ∧ rstE env vs env4 = env
    | _ => False) noX) ∧ (b = false → (ds.take j).filterMap f = (ds.take (j + 1)).filterMap f ∧ rstE env vs env3 = env)) noX) (he : Q (.ow .lst (ds.filterMap f)) env) : LcG g t q vs Q ds env :=
  .mk ⟨fun j acc e => acc = (ds.take j).filterMap f ∧ e = env, ⟨rfl, rfl⟩, fun j d acc env' hd ⟨ha, he⟩ => by subst ha he; exact hs j d hd, fun acc env' ⟨ha, he'⟩ => by subst ha he'; rwa [List.take_of_length_le (Nat.le_refl _)]⟩
theorem maps_one {ds : List D} {f : D → D} {j : Nat} {d : D} (hd : ds[j]? = some d) : (ds.take j).map f ++ [f d] = (ds.take (j + 1)).map f := by
  rw [List.take_add_one, hd, List.map_append]; rfl
theorem LcG.maps {g : SemG} {t : SemT} {q : SemE} {vs : List Nat} {Q : T → Env → Prop} {ds : List D} {env : Env} (f : D → D)
    (hs : ∀ j d, ds[j]? = some d → g d (wipeE env vs) fun env2 => t env2 (fun b env3 => (b = true → q env3 (fun w env4 => match w with
    | .fz e => (ds.take j).map f ++ [e] = (ds.take (j + 1)).map f ∧ rstE env vs env4 = env
    | _ => False) noX) ∧ (b = false → (ds.take j).map f = (ds.take (j + 1)).map f ∧ rstE env vs env3 = env)) noX) (he : Q (.ow .lst (ds.map f)) env) : LcG g t q vs Q ds env :=
  .mk ⟨fun j acc e => acc = (ds.take j).map f ∧ e = env, ⟨rfl, rfl⟩, fun j d acc env' hd ⟨ha, he⟩ => by subst ha he; exact hs j d hd, fun acc env' ⟨ha, he'⟩ => by subst ha he'; rwa [List.take_of_length_le (Nat.le_refl _)]⟩
theorem nf_map {a : T} {l : List T} : List.map some (a :: l) = some a :: List.map some l := rfl
theorem nf_map0 : List.map some ([] : List T) = [] := rfl
theorem nf_app {a : Option T} {l m : List (Option T)} : (a :: l) ++ m = a :: (l ++ m) := rfl
theorem nf_app0 {m : List (Option T)} : [] ++ m = m := rfl
theorem nf_set0 {a b : Option T} {l : List (Option T)} : (a :: l).set 0 b = b :: l := rfl
theorem nf_setS {a b : Option T} {l : List (Option T)} {n : Nat} : (a :: l).set (n + 1) b = a :: l.set n b := rfl
theorem putE_nil {env : Env} : putE env [] [] = env := rfl
theorem putE_cons {env : Env} {i : Nat} {is : List Nat} {v : Option T} {vs : List (Option T)} : putE env (i :: is) (v :: vs) = putE (env.set i v) is vs := rfl
theorem putO_nil {env : Env} : putO [] [] env = env := rfl
theorem putO_cons {env : Env} {i : Nat} {is : List Nat} {v : T} {vs : List T} : putO (i :: is) (v :: vs) env = putO is vs (env.set i (some v)) := rfl
theorem over_yes {α : Type} {l : List α} {p : α → Bool} {f : α → D} {j : Nat} {a : α} (h : l[j]? = some a) (hp : p a = true) : ((l.take j).filter p).map f ++ [f a] = ((l.take (j + 1)).filter p).map f := by
  rw [List.take_add_one, h, List.filter_append, List.map_append]; simp [hp]
theorem over_no {α : Type} {l : List α} {p : α → Bool} {f : α → D} {j : Nat} {a : α} (h : l[j]? = some a) (hp : p a = false) : ((l.take j).filter p).map f = ((l.take (j + 1)).filter p).map f := by
  rw [List.take_add_one, h, List.filter_append, List.map_append]; simp [hp]
theorem map_at {α : Type} {l : List α} {g0 : α → D} {j : Nat} {d : D} (h : (l.map g0)[j]? = some d) : ∃ a, l[j]? = some a ∧ d = g0 a := by
  rw [List.getElem?_map] at h
  cases e : l[j]? with
  | none => rw [e] at h; cases h
  | some a => rw [e] at h; cases h; exact ⟨a, rfl, rfl⟩
theorem LcG.over {g : SemG} {t : SemT} {q : SemE} {vs : List Nat} {Q : T → Env → Prop} {ds : List D} {env : Env} {α : Type} (l : List α) (g0 : α → D) (hds : ds = l.map g0) (p : α → Bool) (f : α → D)
    (hs : ∀ j a, l[j]? = some a → g (g0 a) (wipeE env vs) fun env2 => t env2 (fun b env3 => (b = true → q env3 (fun w env4 => match w with
    | .fz e => ((l.take j).filter p).map f ++ [e] = ((l.take (j + 1)).filter p).map f ∧ rstE env vs env4 = env
    | _ => False) noX) ∧ (b = false → ((l.take j).filter p).map f = ((l.take (j + 1)).filter p).map f ∧ rstE env vs env3 = env)) noX) (he : Q (.ow .lst ((l.filter p).map f)) env) : LcG g t q vs Q ds env :=
  .mk ⟨fun j acc e => acc = ((l.take j).filter p).map f ∧ e = env, ⟨rfl, rfl⟩, fun j d acc env' hd ⟨ha, he⟩ => by
    subst ha he hds
    obtain ⟨a, h1, rfl⟩ := map_at hd
    exact hs j a h1, fun acc env' ⟨ha, he'⟩ => by
    subst ha he' hds
    rwa [List.length_map, List.take_of_length_le (Nat.le_refl _)]⟩
theorem all_one {α : Type} {l : List α} {f : α → D} {j : Nat} {a : α} (h : l[j]? = some a) : (l.take j).map f ++ [f a] = (l.take (j + 1)).map f := by
  rw [List.take_add_one, h, List.map_append]; rfl
theorem LcG.each {g : SemG} {t : SemT} {q : SemE} {vs : List Nat} {Q : T → Env → Prop} {ds : List D} {env : Env} {α : Type} (l : List α) (g0 : α → D) (hds : ds = l.map g0) (f : α → D)
    (hs : ∀ j a, l[j]? = some a → g (g0 a) (wipeE env vs) fun env2 => t env2 (fun b env3 => (b = true → q env3 (fun w env4 => match w with
    | .fz e => (l.take j).map f ++ [e] = (l.take (j + 1)).map f ∧ rstE env vs env4 = env
    | _ => False) noX) ∧ (b = false → (l.take j).map f = (l.take (j + 1)).map f ∧ rstE env vs env3 = env)) noX) (he : Q (.ow .lst (l.map f)) env) : LcG g t q vs Q ds env :=
  .mk ⟨fun j acc e => acc = (l.take j).map f ∧ e = env, ⟨rfl, rfl⟩, fun j d acc env' hd ⟨ha, he⟩ => by
    subst ha he hds
    obtain ⟨a, h1, rfl⟩ := map_at hd
    exact hs j a h1, fun acc env' ⟨ha, he'⟩ => by
    subst ha he' hds
    rwa [List.length_map, List.take_of_length_le (Nat.le_refl _)]⟩
theorem ForG.over {g : SemG} {body : SemS} {D : EndsQ} {ds : List QV.D} {env : Env} {α : Type} (l : List α) (g0 : α → QV.D) (hds : ds = l.map g0) (ms : List Nat) (I : Nat → List (Option T) → Prop) (h0 : ∃ vs, env = putE env ms vs ∧ I 0 vs)
    (hs : ∀ j a vs, l[j]? = some a → I j vs → g (g0 a) (putE env ms vs) fun env2 => body { D with nx := fun e => ∃ us, e = putE env ms us ∧ I (j + 1) us, ct := fun e => ∃ us, e = putE env ms us ∧ I (j + 1) us, bk := D.nx } env2) (he : ∀ vs, I l.length vs → D.nx (putE env ms vs)) : ForG g body D ds env :=
  .fr ms I h0 (fun j d vs hd i => by
    subst hds
    obtain ⟨a, h1, rfl⟩ := map_at hd
    exact hs j a vs h1 i) fun vs i => he vs (by subst hds; rwa [List.length_map] at i)
theorem ForG.rng {g : SemG} {body : SemS} {D : EndsQ} {lo : Int} {n : Nat} {env : Env} (ms : List Nat) (I : Nat → List (Option T) → Prop) (h0 : ∃ vs, env = putE env ms vs ∧ I 0 vs)
    (hs : ∀ j vs, j < n → I j vs → g (.int (lo + (j : Nat))) (putE env ms vs) fun env2 => body { D with nx := fun e => ∃ us, e = putE env ms us ∧ I (j + 1) us, ct := fun e => ∃ us, e = putE env ms us ∧ I (j + 1) us, bk := D.nx } env2) (he : ∀ vs, I n vs → D.nx (putE env ms vs)) : ForG g body D (rngD lo n) env :=
  .fr ms I h0 (fun j d vs hd i => by
    obtain ⟨h1, rfl⟩ := rngD_get hd
    exact hs j vs h1 i) fun vs i => he vs (by rwa [rngD_len] at i)
theorem rngD_map {lo : Int} {n : Nat} : rngD lo n = (List.range n).map fun i => D.int (lo + (i : Nat)) := rfl
theorem perm_eraseIdx {α : Type} : ∀ (l : List α) (i : Nat) (h : i < l.length), (l[i] :: l.eraseIdx i).Perm l
  | [], i, h => by simp at h
  | a :: l, 0, h => by simp
  | a :: l, i + 1, h => by
    have := perm_eraseIdx l i (by simpa using h)
    simp only [List.getElem_cons_succ, List.eraseIdx_cons_succ]
    exact (List.Perm.swap a _ _).trans (List.Perm.cons a this)
theorem map_erase {α β : Type} (f : α → β) : ∀ (l : List α) (i : Nat), (l.map f).eraseIdx i = (l.eraseIdx i).map f
  | [], _ => rfl
  | a :: l, 0 => rfl
  | a :: l, i + 1 => by simp [map_erase f l i]
theorem mem3 {Mi Mt Me : List Nat} : (∀ i ∈ Mi, i ∈ Mi ++ (Mt ++ Me)) ∧ (∀ i ∈ Mt, i ∈ Mi ++ (Mt ++ Me)) ∧ ∀ i ∈ Me, i ∈ Mi ++ (Mt ++ Me) := ⟨subl, fun i h => subr i (subl i h), fun i h => subr i (subr i h)⟩
theorem lc_run {K : PySem.W.Frag} {W : WX} {Mi Mt Me SS vs : List Nat} {qi : SemI} {g : SemG} {t : SemT} {q : SemE} (hs : ∀ i ∈ SS, i ∈ vs) (hv : ∀ i ∈ vs, i ∉ Mt ++ Me) {σ : L2.St} {H : Hp} {Qv : VK} (h : tQ K W (Mi ++ (Mt ++ Me)) (sLc qi g t q vs) σ H Qv) :
    tLc (tI K W Mi qi) (tG K SS g) (tT K W0 Mt t) (tQ K W0 Me q) vs σ H Qv := by
  obtain ⟨n, ow, env, Q, E, s, hq, k, x⟩ := h
  refine ⟨n, ow, env, _, E, s, hq, fun J ds H1 ow1 env1 y1 s1 o1 J1 hI => ?_, fun r d H' ow' env' y s' o => x r d H' ow' env' (y.mono subl (Nat.le_refl _)) s' (o.mono subl)⟩
  obtain ⟨I, i0, it, ie⟩ := hI.ex
  intro D hD
  have key : ∀ {H' : Hp} {ow' : Ow}, Stp (Mi ++ (Mt ++ Me)) n H1 ow1 H' ow' → Stp (Mi ++ (Mt ++ Me)) n H ow H' ow' := fun y => y1.trans y subl (fun _ h => h) (Nat.le_refl _) (Nat.le_refl _)
  refine ⟨fun j m H' => m = ds.length - j ∧ j ≤ ds.length ∧ ∃ ow' env' acc us, Stp (Mi ++ (Mt ++ Me)) n H1 ow1 H' ow' ∧ StOk K H' ow' σ env' ∧ Out (Mi ++ (Mt ++ Me)) env1 env' ∧ H' D = some (.lst us) ∧ ow' D = .tm n ∧ Rps K (Bs H' ow') us acc ∧ us.length ≤ j ∧ I j acc env',
    ⟨ds.length, by simp, Nat.zero_le _, Ow.put ow1 D (.tm n), env1, [], [], Stp.new hD, s1.stp0 (n := 0) (Stp.new hD), Out.refl, upd_same, put_same, .nil, Nat.le_refl _, i0⟩, ?_⟩
  rintro j m H' ⟨rfl, hj, ow', env', acc, us, y', s', o', hDl, hDo, hr, hl, ij⟩
  by_cases hlt : j < ds.length
  · have hd : ds[j]? = some ds[j] := by simp [hlt]
    refine .inr ⟨J1.go j _ H' ow' y'.fs hd, fun H5 => ∃ ow5 env5 acc5 us5, Stp (Mi ++ (Mt ++ Me)) n H1 ow1 H5 ow5 ∧ StOk K H5 ow5 σ env5 ∧ Out (Mi ++ (Mt ++ Me)) env1 env5 ∧ H5 D = some (.lst us5) ∧ ow5 D = .tm n ∧ Rps K (Bs H5 ow5) us5 acc5 ∧ us5.length ≤ j + 1 ∧ I (j + 1) acc5 env5,
      fun H5 ⟨ow5, env5, acc5, us5, q5⟩ => ⟨ds.length - (j + 1), by omega, rfl, hlt, ow5, env5, acc5, us5, q5⟩, fun xv H2 yl => ?_⟩
    obtain ⟨ow2, ex, rx⟩ := J1.yld j _ H' ow' xv H2 y'.fs hd yl
    have y2 : Stp (Mi ++ (Mt ++ Me)) n H' ow' H2 ow2 := ex.stp
    have s2 : StOk K H2 ow2 σ env' := s'.stp0 (n := 0) ex.stp
    refine ⟨ow2, wipeE env' vs, _, _, s2.wipe, rx, it j _ acc env' hd ij, fun σ3 env3 tc oT s3 z3 => ?_⟩
    refine ⟨wipe_tch tc hs, n + 1, ow2, env3, _, noX, s3, z3, fun b H3 ow3 env4 y3 s4 o4 z4 => ?_, xk0⟩
    have hD2 := (ex D _ hDl)
    have hD3 := y3 D _ hD2.1 (by rw [hD2.2, hDo]; exact Nat.lt_succ_self n)
    have hDo3 : ow3 D = .tm n := by rw [hD3.2, hD2.2, hDo]
    have same3 : Same (Bs H' ow') (Bs H3 ow3) := fun a o e => y3.bs a o (y2.bs a o e)
    have y23 : Stp (Mi ++ (Mt ++ Me)) n H' ow' H3 ow3 := y2.trans y3 (fun _ h => h) mem3.2.1 (Nat.le_refl _) (Nat.le_succ _)
    have outs : ∀ {e5 : Env} {H5 : Hp} {ow5 : Ow}, Out (Mt ++ Me) env3 e5 → StOk K H5 ow5 σ3 e5 → Out (Mi ++ (Mt ++ Me)) env1 (rstE env' vs e5) := fun {e5 H5 ow5} oo ss => by
      refine ⟨?_, fun i hi => ?_⟩
      · rw [rstE_len, ss.len, tc.len, wipe_length, ← s'.len, o'.len]
      · rw [← o'.eq i hi]
        by_cases hiv : i ∈ vs
        · by_cases hil : i < env'.length
          · have : ∀ {vs : List Nat}, i ∈ vs → (rstE env' vs e5)[i]? = some ((env'[i]?).getD none) := fun {vs} hm => by
              induction vs with
              | nil => simp at hm
              | cons v vs ih =>
                unfold rstE
                by_cases hv2 : v = i
                · subst hv2
                  exact List.getElem?_set_self (by rw [rstE_len, ss.len, tc.len, wipe_length, ← s'.len]; exact hil)
                · rw [List.getElem?_set_ne hv2]
                  exact ih ((List.mem_cons.mp hm).resolve_left fun z => hv2 z.symm)
            rw [this hiv]
            have e : env'[i]? = some env'[i] := by simp [hil]
            rw [e]
            rfl
          · rw [List.getElem?_eq_none (by rw [rstE_len, ss.len, tc.len, wipe_length, ← s'.len]; omega), List.getElem?_eq_none (by omega)]
        · rw [rstE_out hiv, oo.eq i fun z => hi (subr i z)]
          rw [oT.eq i fun z => hiv (hs i z)]
          exact wipeE_out hiv
    have carV : ∀ {H5 : Hp} {ow5 : Ow}, Stp (Mt ++ Me) (n + 1) H2 ow2 H5 ow5 → ∀ i ∈ vs, Car H2 H5 ow2 ow5 (.sl i) (.sl i) := fun {H5 ow5} yy i hi => yy.car (l := .sl i) (hv i hi)
    cases b with
    | false =>
      refine iteF ?_
      have y3' : Stp (Mt ++ Me) (n + 1) H2 ow2 H3 ow3 := y3.mono subl (Nat.le_refl _)
      exact ⟨ow3, _, acc, us, y'.trans y23 (fun _ h => h) (fun _ h => h) (Nat.le_refl _) (Nat.le_refl _), s2.rst s4 tc hs (carV y3'), outs (o4.mono subl) s4, hD3.1, hDo3, hr.mono same3, Nat.le_succ_of_le hl, z4.2 rfl⟩
    | true =>
      refine iteT ?_
      refine ⟨n + 1, ow3, env4, _, noX, s4, z4.1 rfl, fun v w H4 ow4 env5 y4 s5 o5 r4 z5 => ?_, xk0⟩
      split at z5
      · rename_i e
        have rv := Tq.fz_.mp r4
        have hD4 := y4 D _ hD3.1 (by rw [hDo3]; exact Nat.lt_succ_self n)
        have hDo4 : ow4 D = .tm n := by rw [hD4.2, hDo3]
        have same4 : Same (Bs H' ow') (Bs H4 ow4) := fun a o e => y4.bs a o (same3 a o e)
        have yu : Stp (Mt ++ Me) n H4 ow4 (upd H4 D (.lst (us ++ [v]))) ow4 := fun a o ea pa => by
          have ne : a ≠ D := fun z => by
            rw [z, hDo4] at pa
            exact absurd pa (Nat.lt_irrefl n)
          exact ⟨by rw [upd_ne ne]; exact ea, rfl⟩
        have y34 : Stp (Mt ++ Me) (n + 1) H2 ow2 H4 ow4 := y3.trans y4 subl subr (Nat.le_refl _) (Nat.le_refl _)
        have y25 : Stp (Mt ++ Me) n H2 ow2 (upd H4 D (.lst (us ++ [v]))) ow4 := y34.trans yu (fun _ h => h) (fun _ h => h) (Nat.le_succ _) (Nat.le_refl _)
        have s5u : StOk K (upd H4 D (.lst (us ++ [v]))) ow4 σ3 env5 := ⟨s5.len, fun i t e => by
          obtain ⟨w, e1, r⟩ := s5.at_ i t e
          refine ⟨w, e1, Car.tq ⟨yu.bs, fun a o ea eo => ?_⟩ r⟩
          have ne : a ≠ D := fun z => by
            rw [z, hDo4] at eo
            cases eo
          exact ⟨by rw [upd_ne ne]; exact ea, eo⟩⟩
        have carU : ∀ i ∈ vs, Car H2 (upd H4 D (.lst (us ++ [v]))) ow2 ow4 (.sl i) (.sl i) := fun i hi => ⟨y25.bs, fun a o ea eo => by
          obtain ⟨e1, e2⟩ := y34 a o ea (by rw [eo]; exact hv i hi)
          have ne : a ≠ D := fun z => by
            rw [z, hDo4] at e2
            rw [z] at eo
            rw [eo] at e2
            cases e2
          exact ⟨by rw [upd_ne ne]; exact e1, e2.trans eo⟩⟩
        have yall : Stp (Mi ++ (Mt ++ Me)) n H1 ow1 (upd H4 D (.lst (us ++ [v]))) ow4 := (y'.trans y2 (fun _ h => h) (fun _ h => h) (Nat.le_refl _) (Nat.le_refl _)).trans y25 (fun _ h => h) subr (Nat.le_refl _) (Nat.le_refl _)
        refine ⟨us, hD4.1, Nat.lt_of_le_of_lt hl (Nat.lt_of_lt_of_le hlt J1.sz), ow4, _, acc ++ [e], us ++ [v], yall, s2.rst s5u tc hs carU, outs (o4.trans o5 subl subr) s5, upd_same, hDo4, ?_, by rw [List.length_append]; simpa using hl, z5⟩
        exact (hr.mono fun a o e => yu.bs a o (same4 a o e)).app (.cons (rv.mono yu.bs) .nil)
      · exact z5.elim
  · have e : j = ds.length := by omega
    subst e
    exact .inl ⟨J1.stop H' ow' y'.fs, k (.ref D) (.ow .lst acc) H' ow' env' (key y') s' (o1.trans o' subl (fun _ h => h)) ⟨_, .ow (dx := D) ⟨hDl, Nat.le_trans hl J1.sz, trivial⟩ (fun b fb => by
      have eb : b = D := fb
      rw [eb]; exact hDo) hr⟩ (ie acc env' ij)⟩
end QV

set_option Elab.async false
set_option linter.all false
set_option maxRecDepth 100000
set_option maxHeartbeats 2000000
namespace QV
open PySem L2

section
variable {X : Cx} {W : WX} {Mi Mt Me M IO SS : List Nat} {elt tg iter e : Expr} {ifs : List Expr} {scope : Scope} {own : List (Str × Nat)} {pos spos py : Pos} {qi : SemI} {g : SemG} {t : SemT} {q : SemE} {y : Str} {i : Nat}
theorem q_lc (hc : X.calm = true) (hN : X.N.Nodup) (hi : QI X W Mi tg iter qi) (ok : BlkOk X.N X.env.scope scope own)
    (hg : ∀ (s : Shared) (H : Hp) (C : Addr) (cl : List (Str × Addr)) (fp : List Addr), QG (X.blk s H scope (compEnvC scope cl C X.env) fp) SS tg g) (ht : ∀ (s : Shared) (H : Hp) (C : Addr) (cl : List (Str × Addr)) (fp : List Addr), QTs (X.blk s H scope (compEnvC scope cl C X.env) fp) W0 Mt ifs t)
    (he : ∀ (s : Shared) (H : Hp) (C : Addr) (cl : List (Str × Addr)) (fp : List Addr), QE (X.blk s H scope (compEnvC scope cl C X.env) fp) W0 Me elt q) (hs : ∀ i ∈ SS, i ∈ own.map (·.2) := by decide) (hv : ∀ i ∈ own.map (·.2), i ∉ Mt ++ Me := by decide)
    (hf : ∀ x, foldedSetIterable iter X.env x = pure x := by intro _; rfl) : QE X W (Mi ++ (Mt ++ Me)) (.ListComp elt [⟨tg, iter, ifs, 0⟩] scope pos) (sLc qi g t q (own.map (·.2))) :=
  ⟨PE_imp (pe_lc hc hN hi.run ok (fun s H C cl fp => (hg s H C cl fp).run) (fun s H C cl fp => (ht s H C cl fp).run) (fun s H C cl fp => (he s H C cl fp).run) hf) fun _ _ _ h => lc_run hs hv h⟩
theorem set_run {K : PySem.W.Frag} {te : TE} {D : Ends} {σ : L2.St} {H : Hp} (hio : i ∉ IO) (h : tS K W IO (sSet i q) D σ H) (f : ∀ Qv, tQ K W M q σ H Qv → te σ H Qv) : tAsg te (gName i) D σ H := by
  obtain ⟨ow, env, De, s, hq, k⟩ := h
  exact f _ ⟨0, ow, env, _, De.ex, s, hq, fun v t H' ow' env' y s' _ r z =>
    have ⟨y2, s2⟩ := into_slot s' r
    k.nx _ _ _ _ (y.fs.trans y2.fs) (ios_set hio) s2 z, k.ex.xk⟩
theorem fz_run {K : PySem.W.Frag} {σ : L2.St} {H : Hp} {Qv : VK} (h : tQ K W M (sFz q) σ H Qv) : tQ K W M q σ H Qv := by
  obtain ⟨n, ow, env, Q, E, s, hq, k, x⟩ := h
  exact ⟨n, ow, env, fun t env' => Q (.fz t.d) env', E, s, hq, fun v t H' ow' env' y s' o r z => by
    have y2 : Stp [] n H' ow' H' (Ow.mv ow' (.tm n) .base) := Stp.mv not_tm
    exact k v (.fz t.d) H' _ env' (y.trans y2 (fun _ h => h) nilsub (Nat.le_refl _) (Nat.le_refl _)) (s'.stp0 y2) o (Tq.fz_.mpr (r.frz (fun z => nomatch z))) z, x⟩
theorem s_setLc (i : Nat) (hc : X.calm = true) (hN : X.N.Nodup) (hi : QI X W Mi tg iter qi) (ok : BlkOk X.N X.env.scope scope own)
    (hg : ∀ (s : Shared) (H : Hp) (C : Addr) (cl : List (Str × Addr)) (fp : List Addr), QG (X.blk s H scope (compEnvC scope cl C X.env) fp) SS tg g) (ht : ∀ (s : Shared) (H : Hp) (C : Addr) (cl : List (Str × Addr)) (fp : List Addr), QTs (X.blk s H scope (compEnvC scope cl C X.env) fp) W0 Mt ifs t)
    (he : ∀ (s : Shared) (H : Hp) (C : Addr) (cl : List (Str × Addr)) (fp : List Addr), QE (X.blk s H scope (compEnvC scope cl C X.env) fp) W0 Me elt q) (hy : X.N[i]? = some y := by rfl) (hyl : X.env.scope.names.lookup y = some .local := by rfl)
    (hsw : swapsWith (.ListComp elt [⟨tg, iter, ifs, 0⟩] scope pos) (some (.Name y py)) spos.line X.env = pure true := by exact sw_true rfl rfl rfl (by decide +kernel)) (hs : ∀ i ∈ SS, i ∈ own.map (·.2) := by decide) (hv : ∀ i ∈ own.map (·.2), i ∉ Mt ++ Me := by decide) (hio : i ∉ IO := by decide)
    (hf : ∀ x, foldedSetIterable iter X.env x = pure x := by intro _; rfl) : QS X W IO (.Assign [.Name y py] (.ListComp elt [⟨tg, iter, ifs, 0⟩] scope pos) spos) (sSet i (sLc qi g t q (own.map (·.2)))) :=
  ⟨PS_imp (ps_setLc hc hN hy hyl hsw hi.run ok (fun s H C cl fp => (hg s H C cl fp).run) (fun s H C cl fp => (ht s H C cl fp).run) (fun s H C cl fp => (he s H C cl fp).run) hf) fun _ _ _ h => set_run (M := Mi ++ (Mt ++ Me)) hio h fun _ z => lc_run hs hv z⟩
theorem s_setLcF (i : Nat) (hc : X.calm = true) (hN : X.N.Nodup) (hi : QI X W Mi tg iter qi) (ok : BlkOk X.N X.env.scope scope own)
    (hg : ∀ (s : Shared) (H : Hp) (C : Addr) (cl : List (Str × Addr)) (fp : List Addr), QG (X.blk s H scope (compEnvC scope cl C X.env) fp) SS tg g) (ht : ∀ (s : Shared) (H : Hp) (C : Addr) (cl : List (Str × Addr)) (fp : List Addr), QTs (X.blk s H scope (compEnvC scope cl C X.env) fp) W0 Mt ifs t)
    (he : ∀ (s : Shared) (H : Hp) (C : Addr) (cl : List (Str × Addr)) (fp : List Addr), QE (X.blk s H scope (compEnvC scope cl C X.env) fp) W0 Me elt q) (hy : X.N[i]? = some y := by rfl) (hyl : X.env.scope.names.lookup y = some .local := by rfl)
    (hsw : swapsWith (.ListComp elt [⟨tg, iter, ifs, 0⟩] scope pos) (some (.Name y py)) spos.line X.env = pure true := by exact sw_true rfl rfl rfl (by decide +kernel)) (hs : ∀ i ∈ SS, i ∈ own.map (·.2) := by decide) (hv : ∀ i ∈ own.map (·.2), i ∉ Mt ++ Me := by decide) (hio : i ∉ IO := by decide)
    (hf : ∀ x, foldedSetIterable iter X.env x = pure x := by intro _; rfl) : QS X W IO (.Assign [.Name y py] (.ListComp elt [⟨tg, iter, ifs, 0⟩] scope pos) spos) (sSet i (sFz (sLc qi g t q (own.map (·.2))))) :=
  ⟨PS_imp (ps_setLc hc hN hy hyl hsw hi.run ok (fun s H C cl fp => (hg s H C cl fp).run) (fun s H C cl fp => (ht s H C cl fp).run) (fun s H C cl fp => (he s H C cl fp).run) hf) fun _ _ _ h => set_run (M := Mi ++ (Mt ++ Me)) hio h fun _ z => lc_run hs hv (fz_run z)⟩
end

section
variable {K : PySem.W.Frag} {H : Hp} {ow : Ow} {σ : L2.St} {env : Env} {i n : Nat} {ds : List D}
theorem own_at (s : StOk K H ow σ env) (e : env[i]? = some (some (.ow .lst ds))) : ∃ a vs, σ[i]? = some (some (.ref a)) ∧ H a = some (.lst vs) ∧ vs.length ≤ sizeLine ∧ Rps K (Bs H ow) vs ds ∧ ow a = .sl i := by
  obtain ⟨v, e1, S, r⟩ := s.at_ i _ e
  cases r with
  | ow c f r => exact ⟨_, _, e1, c.at_, c.sz, r, f _ rfl⟩
theorem own_set {a : Addr} {ds' : List D} {vs' : List V} (s : StOk K H ow σ env) (e1 : σ[i]? = some (some (.ref a))) (eo : ow a = .sl i) (hz : vs'.length ≤ sizeLine) (r : Rps K (Bs H ow) vs' ds') :
    Stp [i] n H ow (upd H a (.lst vs')) ow ∧ StOk K (upd H a (.lst vs')) ow σ (env.set i (some (.ow .lst ds'))) ∧ Out [i] env (env.set i (some (.ow .lst ds'))) := by
  have y : ∀ {m : Nat}, Stp [i] m H ow (upd H a (.lst vs')) ow := fun {m} b o e q => by
    have ne : b ≠ a := fun z => by
      rw [z, eo] at q
      exact absurd (show i ∈ [i] by simp) q
    exact ⟨by rw [upd_ne ne]; exact e, rfl⟩
  refine ⟨y, s.stp (y (m := 0)) Out.set1 fun j t hj e => ?_, Out.set1⟩
  have ej : j = i := by simpa using hj
  subst ej
  have hl : j < env.length := by
    rw [s.len]
    exact (List.getElem?_eq_some_iff.mp e1).1
  rw [List.getElem?_set_self hl] at e
  cases e
  exact ⟨_, e1, _, .ow (dx := a) ⟨upd_same, hz, trivial⟩ (fun b fb => by
    have eb : b = a := fb
    rw [eb]; exact eo) (r.mono (y (m := 0)).bs)⟩
end
def isLst : Option (Option T) → Bool
  | some (some (.ow .lst _)) => true
  | _ => false
def sMt (i : Nat) (qs : SemD) (g : List D → List D → (D → List D → Prop) → Prop) : SemE := fun env Q E => isLst env[i]? = true ∧ qs env (fun ds env1 => match env1[i]? with
  | some (some (.ow .lst xs)) => g xs ds fun d xs' => Q (.fz d) (env1.set i (some (.ow .lst xs')))
  | _ => False) E
def MtO (K : PySem.W.Frag) (r : V → List V → Hp → VK → Prop) (g : List D → List D → (D → List D → Prop) → Prop) : Prop := ∀ (H : Hp) (B : Hp) (a : Addr) (us vs : List V) (xs ds : List D) (Q : D → List D → Prop) (Qv : VK), H a = some (.lst us) → us.length ≤ sizeLine → Rps K B us xs → Rps K B vs ds → g xs ds Q →
  (∀ v d us' xs', Rp K B v d → us'.length ≤ sizeLine → Rps K B us' xs' → Q d xs' → Qv v (upd H a (.lst us'))) → r (.ref a) vs H Qv
section
variable {X : Cx} {W : WX} {M : List Nat} {ks : List (Option Nat)} {e : Expr} {es : List Expr} {qs : SemD} {x name : Str} {px apos cpos : Pos} {id : String} {r : V → List V → Hp → VK → Prop} {g : List D → List D → (D → List D → Prop) → Prop}
theorem ty_list {K : PySem.W.Frag} {H : Hp} {ow : Ow} {σ : L2.St} {env : Env} {i : Nat} (s : StOk K H ow σ env) (h : isLst env[i]? = true) : ∃ a, σ[i]? = some (some (.ref a)) ∧ tyV K "list" (.ref a) H := by
  cases e : env[i]? with
  | none => rw [e] at h; cases h
  | some o =>
    cases o with
    | none => rw [e] at h; cases h
    | some t =>
      rw [e] at h
      cases t with
      | fz _ => cases h
      | nd _ _ => cases h
      | ow k ds =>
        cases k <;> first | cases h | skip
        obtain ⟨a, vs, e1, c, _⟩ := own_at s e
        exact ⟨a, e1, .inl ⟨rfl, vs, .inl (.inl c)⟩⟩
theorem q_mt (i : Nat) (slot : Slot "list" name id) (hty : typeOf (.builtin id) = pure (.type "method_descriptor")) (hm : MtR X id r) (hr : MtO X.K r g) (ha : QA X W M ks (e :: es) qs) (hk : (ks.all fun x => x.isNone) = true := by rfl) (hN : X.N[i]? = some x := by rfl)
    (hv : Vis X.env.scope x := by first | exact Or.inl rfl | exact Or.inr (Or.inl rfl) | exact Or.inr (Or.inr rfl)) (hd : (x == ("__debug__" : Str)) = false := by decide) (hcd : (x == ("__classdict__" : Str)) = false := by decide)
    (hbase : attributeBase (.Name x px) name X.env (eval (.Name x px) X.env) = eval (.Name x px) X.env := by rfl)
    (hfew : ((backTo cpos (starEach (e :: es) X.env)).all (fun x => !x.1) && (backToKw cpos (keywordEach [] X.env)).all (fun x => x.1.isSome)
      && decide ((e :: es).length + ([] : List Keyword).length + (if ([] : List Keyword).isEmpty then 0 else 1) < 30)) = true := by rfl)
    (hline : (apos.endLine == cpos.line) = true := by rfl) (hs : starEach (e :: es) X.env = (false, eval e X.env) :: starEach es X.env := by rfl) (hplain : (backTo cpos (starEach es X.env)).any (·.1) = false := by rfl) :
    QE X W (M ++ [i]) (.Call (.Attribute (.Name x px) name apos) (e :: es) [] cpos) (sMt i qs g) :=
  ⟨PE_imp (pe_bm PySem.F.plainAttrs_list slot hty hm (pe_var (i := i) hN hv hd hcd) ha.run hbase hfew hline hs hplain) fun σ H Qv ⟨n, ow, env, Q, E, s, ⟨h1, hq⟩, k, xx⟩ => by
    obtain ⟨a, e1, ty⟩ := ty_list s h1
    refine ⟨.ref a, e1, ty, tA_data hk s hq (fun r d H' ow' env' y s' o => xx r d H' ow' env' (y.mono subl (Nat.le_refl _)) s' (o.mono subl)) fun vs ds H1 ow1 env1 y1 s1 o1 l1 rr z => ?_⟩
    split at z
    · rename_i xs ee
      obtain ⟨a', us, e2, c, hz, r1, eo⟩ := own_at s1 ee
      rw [e1] at e2
      cases e2
      refine hr H1 (Bs H1 ow1) a us vs xs ds _ Qv c hz r1 rr z fun v d us' xs' rv hz' r' z' => ?_
      obtain ⟨y2, s2, o2⟩ := own_set (n := n) s1 e1 eo hz' r'
      exact k v (.fz d) _ ow1 _ (y1.trans y2 subl subr (Nat.le_refl _) (Nat.le_refl _)) s2 (o1.trans o2 subl subr) (Tq.fz_.mpr (rv.mono y2.bs)) z'
    · exact z.elim⟩
theorem q_mt0 (i : Nat) (slot : Slot "list" name id) (hty : typeOf (.builtin id) = pure (.type "method_descriptor")) (hm : MtR X id r) (hr : MtO X.K r g) (hN : X.N[i]? = some x := by rfl)
    (hv : Vis X.env.scope x := by first | exact Or.inl rfl | exact Or.inr (Or.inl rfl) | exact Or.inr (Or.inr rfl)) (hd : (x == ("__debug__" : Str)) = false := by decide) (hcd : (x == ("__classdict__" : Str)) = false := by decide)
    (hbase : attributeBase (.Name x px) name X.env (eval (.Name x px) X.env) = eval (.Name x px) X.env := by rfl) (hline : (apos.endLine == cpos.line) = true := by rfl) : QE X W [i] (.Call (.Attribute (.Name x px) name apos) [] [] cpos) (sMt i aNil g) :=
  ⟨PE_imp (pe_bm0 PySem.F.plainAttrs_list slot hty hm (pe_var (i := i) hN hv hd hcd) hbase hline) fun σ H Qv ⟨n, ow, env, Q, E, s, ⟨h1, hq⟩, k, xx⟩ => by
    obtain ⟨a, e1, ty⟩ := ty_list s h1
    refine ⟨.ref a, e1, ty, ?_⟩
    unfold aNil at hq
    dsimp only at hq
    split at hq
    · rename_i xs ee
      obtain ⟨a', us, e2, c, hz, r1, eo⟩ := own_at s ee
      rw [e1] at e2
      cases e2
      refine hr H (Bs H ow) a us [] xs [] _ Qv c hz r1 .nil hq fun v d us' xs' rv hz' r' z' => ?_
      obtain ⟨y2, s2, o2⟩ := own_set (n := n) s e1 eo hz' r'
      exact k v (.fz d) _ ow _ y2 s2 o2 (Tq.fz_.mpr (rv.mono y2.bs)) z'
    · exact hq.elim⟩
end
section
variable {K : PySem.W.Frag}
def gApp (xs ds : List D) (Q : D → List D → Prop) : Prop := match ds with
  | [d] => xs.length < sizeLine ∧ Q .non (xs ++ [d])
  | _ => False
theorem m_app : MtO K rAppend gApp := by
  intro H B a us vs xs ds Q Qv c hz r rr h k
  unfold gApp at h
  split at h
  · rename_i d
    cases rr with
    | cons rv rr =>
      cases rr
      have l := r.len
      exact ⟨a, us, _, rfl, rfl, c, by omega, k _ _ _ _ .non (by rw [List.length_append]; simp; omega) (r.app (.cons rv .nil)) h.2⟩
  · exact h.elim
def gPop (xs ds : List D) (Q : D → List D → Prop) : Prop := match ds with
  | [] => ∃ d, xs.getLast? = some d ∧ Q d xs.dropLast
  | _ => False
theorem Rps.dropLast {B : Hp} {us : List V} {xs : List D} (r : Rps K B us xs) : Rps K B us.dropLast xs.dropLast := by
  rw [List.dropLast_eq_take, List.dropLast_eq_take, r.len]
  exact r.take _
theorem m_pop : MtO K rPop gPop := by
  intro H B a us vs xs ds Q Qv c hz r rr h k
  unfold gPop at h
  split at h
  · cases rr
    obtain ⟨d, e, q⟩ := h
    rw [List.getLast?_eq_getElem?, ← r.len] at e
    obtain ⟨v, ev, rv⟩ := r.get e
    exact ⟨a, us, v, rfl, rfl, c, ev, k _ _ _ _ rv (by rw [List.length_dropLast]; omega) r.dropLast q⟩
  · exact h.elim
def gPopAt (xs ds : List D) (Q : D → List D → Prop) : Prop := match ds with
  | [.int j] => 0 ≤ j ∧ ∃ d, xs[j.toNat]? = some d ∧ Q d (xs.eraseIdx j.toNat)
  | _ => False
theorem Rps.erase {B : Hp} : ∀ {us : List V} {xs : List D} (j : Nat), Rps K B us xs → Rps K B (us.eraseIdx j) (xs.eraseIdx j)
  | _, _, _, .nil => .nil
  | _, _, 0, .cons _ t => t
  | _, _, j + 1, .cons r t => .cons r (Rps.erase j t)
theorem m_popAt : MtO K rPopAt gPopAt := by
  intro H B a us vs xs ds Q Qv c hz r rr h k
  unfold gPopAt at h
  split at h
  · rename_i j
    cases rr with
    | cons rv rr =>
      cases rr
      cases rv
      obtain ⟨h0, d, e, q⟩ := h
      obtain ⟨v, ev, rv⟩ := r.get e
      have hl : j.toNat < us.length := (List.getElem?_eq_some_iff.mp ev).1
      have l63 := line63
      refine ⟨a, us, j, j.toNat, v, rfl, rfl, c, by omega, by omega, PySem.StrLaws.seqIndex_nonneg h0 (by omega), ev, k _ _ _ _ rv ?_ (r.erase _) q⟩
      have := len_erase us j.toNat
      omega
  · exact h.elim
end
section
variable {X : Cx} {W : WX} {M Ma Mb IO : List Nat} {e ix : Expr} {q qi : SemE} {x : Str} {px pos tpos : Pos}
theorem q_append (i : Nat) {es : List Expr} {ks : List (Option Nat)} {qs : SemD} {apos cpos : Pos} (ha : QA X W M ks (e :: es) qs) (hk : (ks.all fun x => x.isNone) = true := by rfl) (hN : X.N[i]? = some x := by rfl)
    (hv : Vis X.env.scope x := by first | exact Or.inl rfl | exact Or.inr (Or.inl rfl) | exact Or.inr (Or.inr rfl)) (hd : (x == ("__debug__" : Str)) = false := by decide) (hcd : (x == ("__classdict__" : Str)) = false := by decide)
    (hbase : attributeBase (.Name x px) "append" X.env (eval (.Name x px) X.env) = eval (.Name x px) X.env := by rfl)
    (hfew : ((backTo cpos (starEach (e :: es) X.env)).all (fun x => !x.1) && (backToKw cpos (keywordEach [] X.env)).all (fun x => x.1.isSome)
      && decide ((e :: es).length + ([] : List Keyword).length + (if ([] : List Keyword).isEmpty then 0 else 1) < 30)) = true := by rfl)
    (hline : (apos.endLine == cpos.line) = true := by rfl) (hs : starEach (e :: es) X.env = (false, eval e X.env) :: starEach es X.env := by rfl) (hplain : (backTo cpos (starEach es X.env)).any (·.1) = false := by rfl) :
    QE X W (M ++ [i]) (.Call (.Attribute (.Name x px) "append" apos) (e :: es) [] cpos) (sMt i qs gApp) :=
  q_mt i PySem.F.slot_list_append PySem.F.type_list_append mt_append m_app ha hk hN hv hd hcd hbase hfew hline hs hplain
theorem q_popAt (i : Nat) {es : List Expr} {ks : List (Option Nat)} {qs : SemD} {apos cpos : Pos} (ha : QA X W M ks (e :: es) qs) (hk : (ks.all fun x => x.isNone) = true := by rfl) (hN : X.N[i]? = some x := by rfl)
    (hv : Vis X.env.scope x := by first | exact Or.inl rfl | exact Or.inr (Or.inl rfl) | exact Or.inr (Or.inr rfl)) (hd : (x == ("__debug__" : Str)) = false := by decide) (hcd : (x == ("__classdict__" : Str)) = false := by decide)
    (hbase : attributeBase (.Name x px) "pop" X.env (eval (.Name x px) X.env) = eval (.Name x px) X.env := by rfl)
    (hfew : ((backTo cpos (starEach (e :: es) X.env)).all (fun x => !x.1) && (backToKw cpos (keywordEach [] X.env)).all (fun x => x.1.isSome)
      && decide ((e :: es).length + ([] : List Keyword).length + (if ([] : List Keyword).isEmpty then 0 else 1) < 30)) = true := by rfl)
    (hline : (apos.endLine == cpos.line) = true := by rfl) (hs : starEach (e :: es) X.env = (false, eval e X.env) :: starEach es X.env := by rfl) (hplain : (backTo cpos (starEach es X.env)).any (·.1) = false := by rfl) :
    QE X W (M ++ [i]) (.Call (.Attribute (.Name x px) "pop" apos) (e :: es) [] cpos) (sMt i qs gPopAt) :=
  q_mt i PySem.F.slot_list_pop PySem.F.type_list_pop mt_popAt m_popAt ha hk hN hv hd hcd hbase hfew hline hs hplain
theorem q_pop (i : Nat) {apos cpos : Pos} (hN : X.N[i]? = some x := by rfl)
    (hv : Vis X.env.scope x := by first | exact Or.inl rfl | exact Or.inr (Or.inl rfl) | exact Or.inr (Or.inr rfl)) (hd : (x == ("__debug__" : Str)) = false := by decide) (hcd : (x == ("__classdict__" : Str)) = false := by decide)
    (hbase : attributeBase (.Name x px) "pop" X.env (eval (.Name x px) X.env) = eval (.Name x px) X.env := by rfl) (hline : (apos.endLine == cpos.line) = true := by rfl) : QE X W [i] (.Call (.Attribute (.Name x px) "pop" apos) [] [] cpos) (sMt i aNil gPop) :=
  q_mt0 i PySem.F.slot_list_pop PySem.F.type_list_pop mt_pop m_pop hN hv hd hcd hbase hline
def sStore (i : Nat) (q qi : SemE) : SemS := fun D env => q env (fun t env1 => match t with
  | .fz d => isLst env1[i]? = true ∧ qi env1 (fun u env2 => match u, env2[i]? with
    | .fz (.int k), some (some (.ow .lst xs)) => ∃ j, ixN xs.length k = some j ∧ D.nx (env2.set i (some (.ow .lst (xs.set j d))))
    | _, _ => False) D.ex
  | _ => False) D.ex
theorem s_store (i : Nat) (he : QE X W Ma e q) (hix : QE X W Mb ix qi) (hN : X.N[i]? = some x := by rfl) (hv : Vis X.env.scope x := by first | exact Or.inl rfl | exact Or.inr (Or.inl rfl) | exact Or.inr (Or.inr rfl)) (hd : (x == ("__debug__" : Str)) = false := by decide)
    (hcd : (x == ("__classdict__" : Str)) = false := by decide) (ha : ∀ v, assign (.Subscript (.Name x px) ix tpos) X.env v = (do
      let ov ← holding [v] (eval (.Name x px) X.env)
      let iv ← holding [v, ov] (eval ix X.env)
      standAt tpos
      holding [v, ov, iv] (setItem ov iv v)
      release [v, ov, iv] []) := by intro _; rfl) (hs : swapsWithSole [.Subscript (.Name x px) ix tpos] e pos.line X.env = pure false := by rfl) (hw : swappedStores [.Subscript (.Name x px) ix tpos] e X.env = pure none := by rfl)
    (h1 : (assignEach [.Subscript (.Name x px) ix tpos] X.env).map (·.2) = [assign (.Subscript (.Name x px) ix tpos) X.env] := by rfl) : QS X W IO (.Assign [.Subscript (.Name x px) ix tpos] e pos) (sStore i q qi) :=
  ⟨PS_imp (ps_asg he.run (pg_sub (pe_var (i := i) hN hv hd hcd) hix.run set_list ha) hs hw h1) fun D σ H ⟨ow, env, De, s, hq, k⟩ => ⟨0, ow, env, _, De.ex, s, hq, fun v t H1 ow1 env1 y1 s1 _ r1 z => by
    split at z
    · rename_i d
      obtain ⟨hl, z⟩ := z
      obtain ⟨a, e1, _⟩ := ty_list s1 hl
      refine ⟨.ref a, e1, 1, ow1, env1, _, De.ex, s1, z, fun w u H2 ow2 env2 y2 s2 _ r2 z2 => ?_, (k.ex.step y1.fs Ios.refl).xk⟩
      split at z2
      · rename_i kk xs e2
        obtain ⟨j, hj, z2⟩ := z2
        obtain ⟨a', us, e3, c, hz, rr, eo⟩ := own_at s2 e2
        rw [e1] at e3
        cases e3
        have ew := Tq.rd r2
        cases ew
        have rd := (Tq.fz_.mp r1).mono y2.bs
        refine ⟨a, us, kk, j, rfl, rfl, c, by rw [rr.len]; exact hj, ?_⟩
        obtain ⟨y3, s3, _⟩ := own_set (n := 0) s2 e1 eo (by rw [List.length_set]; exact hz) (rr.set rd j)
        exact k.nx _ _ _ _ ((y1.fs.trans y2.fs).trans y3.fs) Ios.refl s3 z2
      · exact z2.elim
    · exact z.elim, k.ex.xk⟩⟩
end
theorem pget_list {X : Cx} : PGet X (fun o i H Q => ∃ p xs k v, o = .ref p ∧ i = .int k ∧ SqL X.K H p xs ∧ atI xs k = some v ∧ Q v H) := by
  intro pins s σ H o i ov iv Q I ro ri ⟨p, xs, k, v, e1, e2, hq, he, q⟩
  subst e1 e2
  cases ro
  obtain ⟨t, rfl⟩ := ri
  obtain ⟨its, r, pl, hz⟩ := I.list hq
  obtain ⟨j, h1, h2, h3, h4, h5⟩ := atI_get he
  obtain ⟨w, ew, rw'⟩ := r.get h2
  have hl := r.length
  have hn := line63
  have fin : EP X pins σ Q w s := ⟨v, H, I, rw', q⟩
  by_cases h0 : 0 ≤ k
  · have hj : k.toNat = j := by
      rw [PySem.seqIndex_of h0 h5] at h1
      exact Option.some.inj h1
    exact PySem.wpAny_getItem_list pl.isList h0 (by omega) (by rw [hj]; simpa using ew) fin
  · have hj : (k + (its.toArray.size : Int)).toNat = j := by
      rw [PySem.seqIndex_neg (by omega) h4] at h1
      rw [List.size_toArray, ← hl]
      exact Option.some.inj h1
    exact PySem.wpAny_getItem_list_neg pl.isList (by omega) (by rw [List.size_toArray] <;> omega) (by omega) (by rw [hj]; simpa using ew) fin
def sAugS (i : Nat) (qi q : SemE) (f : Int → Int → Int) : SemS := fun D env => isLst env[i]? = true ∧ qi env (fun u env1 => match u, env1[i]? with
  | .fz (.int k), some (some (.ow .lst xs)) => ∃ j, ixN xs.length k = some j ∧ ∃ m : Int, xs[j]? = some (.int m) ∧ q env1 (fun t env2 => match t, env2[i]? with
    | .fz (.int b), some (some (.ow .lst ys)) => j < ys.length ∧ ys.length = xs.length ∧ D.nx (env2.set i (some (.ow .lst (ys.set j (.int (f m b))))))
    | _, _ => False) D.ex
  | _, _ => False) D.ex
def sAug (i : Nat) (q : SemE) (f : Int → Int → Int) : SemS := fun D env => match env[i]? with
  | some (some (.fz (.int m))) => q env (fun t env1 => match t with
    | .fz (.int b) => D.nx (env1.set i (some (.fz (.int (f m b)))))
    | _ => False) D.ex
  | _ => False
section
variable {X : Cx} {W : WX} {M Ma Mb IO : List Nat} {e ix : Expr} {q qi : SemE} {x : Str} {px pos tpos : Pos} {op : Operator} {f : Int → Int → Int}
theorem s_augS (i : Nat) (hop : PIp X op (ipI f)) (hix : QE X W Mb ix qi) (he : QE X W Ma e q) (hN : X.N[i]? = some x := by rfl) (hv : Vis X.env.scope x := by first | exact Or.inl rfl | exact Or.inr (Or.inl rfl) | exact Or.inr (Or.inr rfl)) (hd : (x == ("__debug__" : Str)) = false := by decide)
    (hcd : (x == ("__classdict__" : Str)) = false := by decide) (ha : ∀ ov iv new, augStore ix ov iv new = (do holding [new, ov, iv] (setItem ov iv new); release [new, ov, iv] []; pure .next) := by intros; rfl) :
    QS X W IO (.AugAssign (.Subscript (.Name x px) ix tpos) op e pos) (sAugS i qi q f) :=
  ⟨PS_imp (ps_augS (pe_var (i := i) hN hv hd hcd) hix.run pget_list he.run hop set_list ha) fun D σ H ⟨ow, env, De, s, ⟨h1, hq⟩, k⟩ => by
    obtain ⟨a, e1, _⟩ := ty_list s h1
    refine ⟨.ref a, e1, 0, ow, env, _, De.ex, s, hq, fun w u H1 ow1 env1 y1 s1 _ r1 z1 => ?_, k.ex.xk⟩
    split at z1
    · rename_i kk xs e2
      obtain ⟨j, hj, m, hm, z1⟩ := z1
      obtain ⟨a', us, e3, c, hz, rr, eo⟩ := own_at s1 e2
      rw [e1] at e3
      cases e3
      have ew := Tq.rd r1
      cases ew
      obtain ⟨v, ev, rv⟩ := rr.get hm
      cases rv
      refine ⟨a, us, kk, .int m, rfl, rfl, .inl (.inl c), ?_, 1, ow1, env1, _, De.ex, s1, z1, fun w2 t H2 ow2 env2 y2 s2 _ r2 z2 => ?_, (k.ex.step y1.fs Ios.refl).xk⟩
      · unfold L2.atI
        rw [rr.len, hj]
        exact ev
      · split at z2
        · rename_i bb ys e4
          obtain ⟨hjl, hly, z2⟩ := z2
          obtain ⟨a', us2, e5, c2, hz2, rr2, eo2⟩ := own_at s2 e4
          rw [e1] at e5
          cases e5
          have ew2 := Tq.rd r2
          cases ew2
          refine ⟨m, bb, rfl, rfl, a, us2, kk, j, rfl, rfl, c2, by rw [rr2.len, hly]; exact hj, ?_⟩
          obtain ⟨y3, s3, _⟩ := own_set (n := 0) s2 e1 eo2 (by rw [List.length_set]; exact hz2) (rr2.set (.int (f m bb)) j)
          exact k.nx _ _ _ _ ((y1.fs.trans y2.fs).trans y3.fs) Ios.refl s3 z2
        · exact z2.elim
    · exact z1.elim⟩
theorem s_aug (i : Nat) (hop : PIp X op (ipI f)) (he : QE X W M e q) (hNd : X.N.Nodup) (hN : X.N[i]? = some x := by rfl) (hx : Loc X.env.scope x := by first | exact Or.inl rfl | exact Or.inr rfl) (hio : i ∉ IO := by decide)
    (hf : X.fn x = true ∨ X.env.scope.names.lookup x = some .local := by first | exact .inl rfl | exact .inr rfl) : QS X W IO (.AugAssign (.Name x px) op e pos) (sAug i q f) :=
  ⟨PS_imp (ps_aug (i := i) hNd hN hx he.run hop hf) fun D σ H ⟨ow, env, De, s, hq, k⟩ => by
    unfold sAug at hq
    split at hq
    · rename_i m em
      obtain ⟨v, e1, r⟩ := s.at_ i _ em
      have ev := Tq.rd r
      cases ev
      refine ⟨.int m, e1, 0, ow, env, _, De.ex, s, hq, fun w t H1 ow1 env1 y1 s1 _ r1 z1 => ?_, k.ex.xk⟩
      split at z1
      · rename_i b
        have ew := Tq.rd r1
        cases ew
        exact ⟨m, b, rfl, rfl, k.nx _ _ _ _ y1.fs (ios_set hio) (s1.set (Tq.fz_.mpr (.int _))) z1⟩
      · exact z1.elim
    · exact hq.elim⟩
end
end QV

set_option Elab.async false
set_option linter.all false
set_option maxRecDepth 100000
set_option maxHeartbeats 2000000
namespace QV
open PySem L2

def cutL {α : Type} (xs : List α) (lo hi : Option Int) : List α := (xs.drop (HT.sIx xs.length 0 lo)).take (HT.sIx xs.length xs.length hi - HT.sIx xs.length 0 lo)
abbrev SemO := Env → (Option Int → Env → Prop) → XQ → Prop
def tO (K : PySem.W.Frag) (W : WX) (M : List Nat) (q : SemO) : TO := fun σ H Qv => ∃ (n : Nat) (ow : Ow) (env : Env) (Q : Option Int → Env → Prop) (E : XQ), StOk K H ow σ env ∧ q env Q E ∧
  (∀ (o : Option Int) (H' : Hp) (ow' : Ow) (env' : Env), Stp M n H ow H' ow' → StOk K H' ow' σ env' → Out M env env' → Q o env' → Qv o H') ∧ Xk K W M σ H n ow env E
structure QO (X : Cx) (W : WX) (M : List Nat) (e : Option Expr) (q : SemO) : Prop where
  run : PO X e (tO X.K W M q)
theorem PO_imp {X : Cx} {e : Option Expr} {t t' : TO} (h : PO X e t) (f : ∀ σ H Q, t' σ H Q → t σ H Q) : PO X e t' := ⟨fun pins s σ H Q I q => h.run pins s σ H Q I (f _ _ _ q)⟩
def oNone : SemO := fun env Q _ => Q none env
def oSome (q : SemE) : SemO := fun env Q E => q env (fun t env1 => match t with
  | .fz (.int i) => Q (some i) env1
  | _ => False) E
def SlG (K : PySem.W.Frag) (r : V → Option Int → Option Int → Hp → VK → Prop) (g : T → Option Int → Option Int → (T → Prop) → Prop) : Prop := ∀ (H : Hp) (ow : Ow) (n : Nat) (x : V) (t : T) (lo hi : Option Int) (Q : T → Prop) (Qv : VK), Ro K H ow x t → g t lo hi Q →
  (∀ v w H' ow', Stp [] n H ow H' ow' → Tq K H' ow' (.tm n) v w → Q w → Qv v H') → r x lo hi H Qv
def sSl (pa : SemP) (ql qh : SemO) (g : T → Option Int → Option Int → (T → Prop) → Prop) : SemE := fun env Q E => pa env (fun t _ env1 => ql env1 (fun lo env2 => qh env2 (fun hi env3 => g t lo hi fun w => Q w env3) E) E) E
section
variable {X : Cx} {W : WX} {M Ma Ml Mh : List Nat} {e : Expr} {lo hi : Option Expr} {pa : SemP} {q : SemE} {ql qh : SemO} {ra : Option Nat} {pos p2 : Pos}
theorem o_none : QO X W [] none oNone := ⟨PO_imp po_none fun σ H Qv ⟨n, ow, env, Q, E, s, hq, k, x⟩ => k none H ow env Stp.refl s Out.refl hq⟩
theorem o_some (h : QE X W M e q) : QO X W M (some e) (oSome q) := ⟨PO_imp (po_some h.run) fun σ H Qv ⟨n, ow, env, Q, E, s, hq, k, x⟩ => ⟨n, ow, env, _, E, s, hq, fun v t H' ow' env' y s' o r z => by
  split at z
  · have := Tq.rd r
    cases this
    exact ⟨_, rfl, k _ H' ow' env' y s' o z⟩
  · exact z.elim, x⟩⟩
theorem q_sl {r : V → Option Int → Option Int → Hp → VK → Prop} {g : T → Option Int → Option Int → (T → Prop) → Prop} (hs : SlR X r) (hg : SlG X.K r g) (ha : QP X W Ma ra e pa) (hl : QO X W Ml lo ql) (hh : QO X W Mh hi qh) (hr : okR ra Ml = true := by decide) (hr2 : okR ra Mh = true := by decide) :
    QE X W (Ma ++ (Ml ++ Mh)) (.Subscript e (.Slice lo hi none p2) pos) (sSl pa ql qh g) :=
  ⟨PE_imp (pe_slice hs ha.run hl.run hh.run) fun σ H Qv ⟨n, ow, env, Q, E, s, hq, k, x⟩ => ⟨n, ow, env, _, E, s, hq, fun v t pt H1 ow1 env1 y1 s1 o1 r1 z1 =>
    ⟨n + 1, ow1, env1, _, E, s1, z1, fun l H2 ow2 env2 y2 s2 o2 z2 => ⟨n + 1, ow2, env2, _, E, s2, z2, fun u H3 ow3 env3 y3 s3 o3 z3 => by
      have y12 := y1.trans y2 subl (fun i h => subr i (subl i h)) (Nat.le_refl _) (Nat.le_succ _) (M := Ma ++ (Ml ++ Mh))
      have o12 := o1.trans o2 subl (fun i h => subr i (subl i h)) (M := Ma ++ (Ml ++ Mh))
      have r3 := ((r1.stp y2 o2 hr (Nat.lt_succ_self _)).stp y3 o3 hr2 (Nat.lt_succ_self _)).ro s3
      exact hg H3 ow3 n v t l u _ Qv r3 z3 fun v' w H4 ow4 y4 r4 z4 => k v' w H4 ow4 env3 ((y12.trans y3 (fun _ h => h) (fun i h => subr i (subr i h)) (Nat.le_refl _) (Nat.le_succ _)).trans y4 (fun _ h => h) nilsub (Nat.le_refl _) (Nat.le_refl _)) (s3.stp0 y4) (o12.trans o3 (fun _ h => h) (fun i h => subr i (subr i h))) r4 z4,
      x.step (y1.trans y2 subl (fun i h => subr i (subl i h)) (Nat.le_refl _) (Nat.le_succ _)) (o1.trans o2 subl (fun i h => subr i (subl i h))) (fun _ h => h) (fun i h => subr i (subr i h)) (Nat.le_refl _) (Nat.le_succ _)⟩,
      x.step y1 o1 subl (fun i h => subr i (subl i h)) (Nat.le_refl _) (Nat.le_succ _)⟩, fun r d H' ow' env' y s' o => x r d H' ow' env' (y.mono subl (Nat.le_refl _)) s' (o.mono subl)⟩⟩
end
section
variable {K : PySem.W.Frag}
theorem cutV_eq (xs : List V) (lo hi : Option Int) : cutV xs lo hi = cutL xs lo hi := rfl
theorem Rps.cut {B : Hp} {vs : List V} {ds : List D} (r : Rps K B vs ds) (lo hi : Option Int) : Rps K B (cutL vs lo hi) (cutL ds lo hi) := by
  unfold cutL
  rw [r.len]
  exact (r.drop _).take _
theorem cut_ints (ns : List Int) (lo hi : Option Int) : cutL (ns.map V.int) lo hi = (cutL ns lo hi).map V.int := by
  unfold cutL
  rw [List.length_map, ← List.map_drop, ← List.map_take]
theorem cutL_len {α : Type} (xs : List α) (lo hi : Option Int) : (cutL xs lo hi).length ≤ xs.length := by
  unfold cutL
  rw [List.length_take, List.length_drop]
  omega
def slG (t : T) (lo hi : Option Int) (Q : T → Prop) : Prop := match t with
  | .fz (.nd .lst ds) => Q (.ow .lst (cutL ds lo hi))
  | .ow .lst ds => Q (.ow .lst (cutL ds lo hi))
  | .fz (.scr ns) => ns.length ≤ sizeLine ∧ Q (.ow .lst ((cutL ns lo hi).map .int))
  | .fz (.nd .tup ds) => Q (.fz (.nd .tup (cutL ds lo hi)))
  | .fz (.str z) => z.length ≤ sizeLine ∧ Q (.fz (.str (cutS z lo hi)))
  | _ => False
def rSlAll (K : PySem.W.Frag) : V → Option Int → Option Int → Hp → VK → Prop := fun x lo hi H Q => rSlL K x lo hi H Q ∨ rSlA K x lo hi H Q ∨ rSlS x lo hi H Q
theorem sl_all {X : Cx} : SlR X (rSlAll X.K) := sl_list.or (sl_tupA.or sl_str)
theorem g_sl : SlG K (rSlAll K) slG := by
  intro H ow n x t lo hi Q Qv rx h k
  have lst : ∀ {ds : List D}, shL t = some ds → Q (.ow .lst (cutL ds lo hi)) → rSlAll K x lo hi H Qv := fun {ds} e q => by
    obtain ⟨a, vs, rfl, c, z, r⟩ := rx.lst e
    exact .inl ⟨a, vs, rfl, .inl (.inl c), fun p hp => k _ _ _ (Ow.put ow p (.tm n)) (Stp.new hp) (Tq.newL hp (Nat.le_trans (cutV_length _ _ _) z) (r.cut lo hi)) q⟩
  unfold slG at h
  split at h
  · exact lst rfl h
  · exact lst rfl h
  · rename_i ns
    have rd := rx.rd
    cases rd with
    | scr c =>
      refine .inl ⟨_, _, rfl, c, fun p hp => k _ _ _ (Ow.put ow p (.tm n)) (Stp.new hp) (Tq.newL hp ?_ ?_) h.2⟩
      · exact Nat.le_trans (cutV_length _ _ _) (by rw [List.length_map]; exact h.1)
      · rw [cutV_eq, cut_ints]
        exact of_ints _
  · rename_i ds
    obtain ⟨a, vs, rfl, c, z, r⟩ := rx.tup rfl
    refine .inr (.inl ⟨a, vs, rfl, c, fun w => ?_, fun _ p hp => k _ _ _ (Ow.put ow p .base) (Stp.new hp) (Tq.fz_.mpr (.tup (by rw [bs_of put_same, upd_same]) (Nat.le_trans (cutV_length _ _ _) z) ((r.cut lo hi).mono (Stp.bs (M := []) (n := 0) (Stp.new hp))))) h⟩)
    have e : cutL ds lo hi = ds := by
      unfold cutL
      rw [← r.len, w.1, w.2]
      simp [r.len]
    rw [e] at h
    exact k _ _ H ow Stp.refl (by obtain ⟨l, rx⟩ := rx; exact Tq.fz_.mpr (Tq.fz_.mp rx)) h
  · exact .inr (.inr ⟨_, rx.str, h.1, k _ _ H ow Stp.refl (Tq.fz_.mpr (.str _)) h.2⟩)
  · exact h.elim
end
section
variable {X : Cx} {W : WX} {M Ma Ml Mh : List Nat} {e : Expr} {lo hi : Option Expr} {pa : SemP} {q : SemE} {ql qh : SemO} {ra : Option Nat} {pos p1 p2 p3 : Pos}
theorem q_slice (ha : QP X W Ma ra e pa) (hl : QO X W Ml lo ql) (hh : QO X W Mh hi qh) (hr : okR ra Ml = true := by decide) (hr2 : okR ra Mh = true := by decide) : QE X W (Ma ++ (Ml ++ Mh)) (.Subscript e (.Slice lo hi none p2) pos) (sSl pa ql qh slG) := q_sl sl_all g_sl ha hl hh hr hr2
def revG (t : T) (Q : T → Prop) : Prop := match shL t with
  | some ds => Q (.ow .lst ds.reverse)
  | none => False
theorem q_revL {k : Nat} (ha : QP X W M ra e pa) : QE X W M (.Subscript e (.Slice none none (some (.UnaryOp .USub (.Constant (.int 1) k p1) p2)) p3) pos) (s1 pa revG) :=
  ⟨PE_imp (pe_revL ha.run) fun σ H Qv ⟨n, ow, env, Q, E, s, hq, k, x⟩ => ⟨n, ow, env, _, E, s, hq, fun v t pt H' ow' env' y s' o r z => by
    unfold revG at z
    split at z
    · rename_i ds e
      obtain ⟨a, vs, rfl, c, hz, rr⟩ := (r.ro s').lst e
      exact ⟨a, vs, rfl, .inl (.inl c), fun p hp => k _ _ _ (Ow.put ow' p (.tm n)) env' (y.trans (Stp.new hp) (fun _ h => h) nilsub (Nat.le_refl _) (Nat.le_refl _)) (s'.stp0 (n := 0) (Stp.new hp)) o (Tq.newL hp (by rw [List.length_reverse]; exact hz) rr.rev) z⟩
    · exact z.elim, x⟩⟩
def strOf : T → Option Str
  | .fz (.str x) => some x
  | _ => none
def Mt1 (K : PySem.W.Frag) (r : V → List V → Hp → VK → Prop) (g : Str → T → (T → Prop) → Prop) : Prop := ∀ (H : Hp) (ow : Ow) (n : Nat) (x : Str) (v : V) (t : T) (Q : T → Prop) (Qv : VK), Ro K H ow v t → g x t Q →
  (∀ v w H' ow', Stp [] n H ow H' ow' → Tq K H' ow' (.tm n) v w → Q w → Qv v H') → r (.str x) [v] H Qv
def sM1 (q : SemE) (pa : SemP) (g : Str → T → (T → Prop) → Prop) : SemE := fun env Q E => q env (fun t env1 => match t with
  | .fz (.str x) => pa env1 (fun u _ env2 => g x u fun w => Q w env2) E
  | _ => False) E
theorem q_m1 {o : Expr} {id : String} {name : Str} {apos : Pos} {r : V → List V → Hp → VK → Prop} {g : Str → T → (T → Prop) → Prop} (slot : Slot "str" name id) (ty : typeOf (.builtin id) = pure (.type "method_descriptor")) (rule : MtR X id r) (hg : Mt1 X.K r g) (ho : QE X W Ma o q) (he : QP X W Ml ra e pa)
    (hs : starEach [e] X.env = [(false, eval e X.env)] := by rfl) (hbase : attributeBase o name X.env (eval o X.env) = eval o X.env := by rfl) (hline : (apos.endLine == pos.line) = true := by rfl) : QE X W (Ma ++ Ml) (.Call (.Attribute o name apos) [e] [] pos) (sM1 q pa g) :=
  ⟨PE_imp (pe_m1 slot ty rule ho.run he.run hs hbase hline) fun σ H Qv ⟨n, ow, env, Q, E, s, hq, k, x⟩ => ⟨n, ow, env, _, E, s, hq, fun v t H1 ow1 env1 y1 s1 o1 r1 z1 => by
    split at z1
    · have rd := Tq.rd r1
      cases rd
      refine ⟨⟨_, rfl⟩, n + 1, ow1, env1, _, E, s1, z1, fun w u pt H2 ow2 env2 y2 s2 o2 r2 z2 => ?_, x.step y1 o1 subl subr (Nat.le_refl _) (Nat.le_succ _)⟩
      exact hg H2 ow2 n _ w u _ Qv (r2.ro s2) z2 fun v' w' H3 ow3 y3 r3 z3 => k v' w' H3 ow3 env2 ((y1.trans y2 subl subr (Nat.le_refl _) (Nat.le_succ _)).trans y3 (fun _ h => h) nilsub (Nat.le_refl _) (Nat.le_refl _)) (s2.stp0 y3) (o1.trans o2 subl subr) r3 z3
    · exact z1.elim, fun r d H' ow' env' y s' o => x r d H' ow' env' (y.mono subl (Nat.le_refl _)) s' (o.mono subl)⟩⟩
def joinG (a : Str) (t : T) (Q : T → Prop) : Prop := ∃ ys : List Str, seqT t = some (ys.map .str) ∧ (ys.map (·.length)).sum + ys.length * a.length ≤ 16777216 ∧ Q (.fz (.str (Txt.join a ys)))
theorem strs_of {K : PySem.W.Frag} {B : Hp} : ∀ {vs : List V} {ns : List Str}, Rps K B vs (ns.map .str) → vs = ns.map V.str
  | _, [], .nil => rfl
  | _, n :: ns, .cons r s => by
    cases r
    rw [List.map_cons, strs_of s]
theorem g_join {K : PySem.W.Frag} : Mt1 K (fun x xs H Q => ∃ a p, ∃ ys : List Str, x = .str a ∧ xs = [.ref p] ∧ (SqL K H p (ys.map V.str) ∨ SqT K H p (ys.map V.str)) ∧ (ys.map (·.length)).sum + ys.length * a.length ≤ 16777216 ∧ Q (.str (Txt.join a ys)) H) joinG := by
  intro H ow n x v t Q Qv rv ⟨ys, e, hz, q⟩ k
  obtain ⟨a, vs, rfl, c, z, r⟩ := rv.seq e
  have ev := strs_of r
  subst ev
  exact ⟨x, a, ys, rfl, rfl, c, hz, k _ _ H ow Stp.refl (Tq.fz_.mpr (.str _)) q⟩
theorem q_join {o : Expr} {apos : Pos} (ho : QE X W Ma o q) (he : QP X W Ml ra e pa) (hs : starEach [e] X.env = [(false, eval e X.env)] := by rfl) (hbase : attributeBase o "join" X.env (eval o X.env) = eval o X.env := by rfl) (hline : (apos.endLine == pos.line) = true := by rfl) :
    QE X W (Ma ++ Ml) (.Call (.Attribute o "join" apos) [e] [] pos) (sM1 q pa joinG) := q_m1 F.slot_str_join F.type_str_join mt_join g_join ho he hs hbase hline
end
def shwD (d : D) : Prop := d.py.showable = true ∧ d.py.shown.length ≤ sizeLine
theorem noDict_of_lay : ∀ d : PyData, d.canLay0 = true → d.hasDict = false := fun d h => PyData.hasDict_of_canLay d h
def rRepr (K : PySem.W.Frag) : List V → Hp → VK → Prop := fun xs H Q => ∃ x d, xs = [x] ∧ Dp K H x d ∧ SeqAt.shaped d = true ∧ d.showable = true ∧ d.shown.length ≤ sizeLine ∧ Q (.str d.shown) H
theorem c_repr {X : Cx} (hG : X.A.guards = some []) (hu : X.A.units + 66 < cLine) : CallR X (.builtin "repr") (rRepr X.K) := by
  intro pins s σ H xs us Q I r ⟨x, d, ex, hd, hs, hw, hz, q⟩
  subst ex
  obtain ⟨u, rfl, ru⟩ := vals1 r
  have hl := SeqAt.canLay_of_shaped hs
  have hdep := SeqAt.depth_of_shaped hs
  obtain ⟨as, rd⟩ := Dp.reads I d x u hd ru
  cases hd with
  | non => cases ru; rw [PyData.shown_none] at q; exact PySem.P.repr_of_none ⟨.str _, H, I.tok _, ⟨_, rfl⟩, q⟩
  | bl b => cases ru; rw [PyData.shown_bool] at q; exact PySem.P.repr_of_bool ⟨.str _, H, I.tok _, ⟨_, by cases b <;> rfl⟩, q⟩
  | int i => obtain ⟨t, rfl⟩ := ru; rw [PyData.shown_int] at q; exact PySem.P.repr_of_int (by simpa [PyData.showable] using hw) ⟨.str _, H, I.tok _, ⟨_, rfl⟩, q⟩
  | str z => obtain ⟨t, rfl⟩ := ru; rw [PyData.shown_str] at q hz; exact PySem.P.repr_of_str ⟨.str _, H, I.tok _, ⟨_, rfl⟩, q⟩ hz
  | lst h1 h2 =>
    cases ru
    exact repr_of_reads' rd hw (fun z => by rw [noDict_of_lay _ hl] at z; cases z) hG (by omega) (fun _ _ e => e) (fun h' u tk hk => ⟨.str _, H, I.kept hk, ⟨_, rfl⟩, q⟩) hz
  | tup h1 h2 =>
    cases ru
    exact repr_of_reads' rd hw (fun z => by rw [noDict_of_lay _ hl] at z; cases z) hG (by omega) (fun _ _ e => e) (fun h' u tk hk => ⟨.str _, H, I.kept hk, ⟨_, rfl⟩, q⟩) hz
def reprG (t : T) (Q : T → Prop) : Prop := t.d.pl 64 = true ∧ shwD t.d ∧ Q (.fz (.str t.d.py.shown))
theorem g_repr {K : PySem.W.Frag} : Op1 K (fun x H Q => rRepr K [x] H Q) reprG := by
  intro H ow n x t Q Qv rx ⟨h1, h2, q⟩ k
  exact ⟨x, _, rfl, rx.rd.dp _ h1, D.pl_shaped h1 (Nat.le_refl _), h2.1, h2.2, k _ _ H ow Stp.refl (Tq.fz_.mpr (.str _)) q⟩
end QV

set_option Elab.async false
set_option linter.all false
set_option maxRecDepth 100000
set_option maxHeartbeats 2000000
namespace QV
open PySem PySem.Spec PyProof.Rows L2

theorem hu65 {A : Around} {k : Nat} (hr : Room k A) : A.units + 65 < cLine := by have := hr.un; omega
theorem hu66 {A : Around} {k : Nat} (hr : Room k A) : A.units + 66 < cLine := by have := hr.un; omega
theorem bt_len : bootBuiltins "len" = some (.builtin "len") := by decide +kernel
theorem bt_abs : bootBuiltins "abs" = some (.builtin "abs") := by decide +kernel
theorem bt_sum : bootBuiltins "sum" = some (.builtin "sum") := by decide +kernel
theorem bt_all : bootBuiltins "all" = some (.builtin "all") := by decide +kernel
theorem bt_any : bootBuiltins "any" = some (.builtin "any") := by decide +kernel
theorem bt_max : bootBuiltins "max" = some (.builtin "max") := by decide +kernel
theorem bt_min : bootBuiltins "min" = some (.builtin "min") := by decide +kernel
theorem bt_repr : bootBuiltins "repr" = some (.builtin "repr") := by decide +kernel
theorem bt_sorted : bootBuiltins "sorted" = some (.builtin "sorted") := by decide +kernel
theorem bt_list : bootBuiltins "list" = some (.type "list") := by decide +kernel
theorem bt_tuple : bootBuiltins "tuple" = some (.type "tuple") := by decide +kernel
theorem bt_int : bootBuiltins "int" = some (.type "int") := by decide +kernel
theorem bt_str : bootBuiltins "str" = some (.type "str") := by decide +kernel
def DefAt (K : PySem.W.Frag) (mg : Str → Option Value) (x : Str) (st : Stmt) (ps : List Str) : Prop := ∃ f fd, Fun K x x st f fd ∧ mg x = some (.ref f) ∧ Binds K fd ps []
def Callee (P : Program) (w : World) (K : PySem.W.Frag) (mg : Str → Option Value) (base : Heap) (k : Nat) (x : Str) (ps : List Str) (io : List Nat) (spec : SemF) : Prop := ∃ f fd, QFn P w K mg base k f fd ps io spec ∧ mg x = some (.ref f) ∧ PySem.W.keepIn K (.ref f) = true ∧ Binds K fd ps []
section
variable {P : Program} {w : World} {K : PySem.W.Frag} {mg : Str → Option Value} {base : Heap}
theorem callee_of {k : Nat} {x : Str} {st : Stmt} {N ps : List Str} {io : List Nat} {spec : SemF} (Df : DefAt K mg x st ps) (S : FnScope N ps (defScope st)) (hio : (io.all fun i => decide (i < ps.length)) = true) (hpN : ps.length ≤ N.length)
    (hb : ∀ (f : Addr) (cdv : Value) (A : Around) (outer : List PySem.Env) (s : Shared) (H : Hp) (E : XK) (W : WX), Room k (A.deeper (envOfC x (defScope st) s.heap.objs.size f cdv)) → A.guards = some [] → L2.Takes (cxOf (L2.CX P w) P w K mg base N x (defScope st) f cdv A outer s H E) W →
      PassesOwn (model P w) (A.deeper (envOfC x (defScope st) s.heap.objs.size f cdv)) (envOfC x (defScope st) s.heap.objs.size f cdv) (cxOf (L2.CX P w) P w K mg base N x (defScope st) f cdv A outer s H E).xe →
      ∃ q, QSs (cxOf (L2.CX P w) P w K mg base N x (defScope st) f cdv A outer s H E) W io (defBody st) q ∧ ∀ args Q E, args.length = ps.length → spec args Q E → q (EndsF io Q E) (env0 N.length args)) : Callee P w K mg base (k + 1) x ps io spec :=
  let ⟨f, fd, F, m, b⟩ := Df
  ⟨f, fd, qfn_of F S hio hpN (hb f), m, F.kp, b⟩
theorem Callee.imp {k : Nat} {x : Str} {ps : List Str} {io : List Nat} {spec spec' : SemF} (C : Callee P w K mg base k x ps io spec) (h : ∀ a Q E, spec' a Q E → spec a Q E) : Callee P w K mg base k x ps io spec' :=
  let ⟨f, fd, F, r⟩ := C
  ⟨f, fd, F.imp h, r⟩
theorem def_at {x : Str} {st : Stmt} {ps : List Str} {h : Heap} {f : Addr} {oc : Value} {od an : Option Addr} {osl : Array (Option Value)} {kV doc pm cdv ct : Value} (X : K.In h) (G : h.Ns mainGlobals mg) (a : PySem.W.nsIn K mainGlobals x = some (some (.ref f)))
    (l : K.lookup f = some ⟨oc, od, .func (PySem.W.fnOf x x (defArgs st) (defBody st) (defScope st) .none kV doc pm an cdv ct), osl⟩) (c : PySem.W.codeIn K cdv x = true) (k : PySem.W.keepIn K (.ref f) = true)
    (hb : ∀ (kV doc pm : Value) (an : Option Addr) (cdv ct : Value) (us : List Value), us.length = ps.length → bindArgs (PySem.W.fnOf x x (defArgs st) (defBody st) (defScope st) .none kV doc pm an cdv ct) ⟨us, []⟩ = pure (ps.zip us)) : DefAt K mg x st ps :=
  have F := fun_mk (x := x) (qual := x) (st := st) l c k
  ⟨f, _, F, PySem.W.mg_of X G a, F.binds hb⟩
end
section
variable {X : Cx} {W : WX} {M : List Nat} {j k : Nat} {ps : List Str} {io : List Nat} {spec : SemF} {ks : List (Option Nat)} {e : Expr} {es : List Expr} {qs : SemD} {x : Str} {p pos : Pos}
theorem q_callC (C : Callee X.prog X.w X.K X.mg X.base k x ps io spec) (tk : L2.Takes X W) (hr : Room k X.A) (hG : X.A.guards = some []) (hg : Gl X x)
    (ha : QA X W M ks (e :: es) qs) (cs : List Nat) (hio : io.Nodup := by decide) (hK : okK ks io cs = true := by decide) (hn : ks.length = ps.length := by rfl) (hdb : (x == ("__debug__" : Str)) = false := by decide) (he : starEach (e :: es) X.env = (false, eval e X.env) :: starEach es X.env := by rfl)
    (hpl : (backTo pos (starEach es X.env)).any (·.1) = false := by rfl) : QE X W (M ++ cs) (.Call (.Name x p) (e :: es) [] pos) (sCall spec ks cs qs) :=
  let ⟨_, _, F, hm, hk, hb⟩ := C
  q_call F tk hr hG hg hm hk hb ha cs hio hK hn hdb he hpl
end
end QV

set_option Elab.async false
set_option linter.all false
set_option maxRecDepth 100000
set_option maxHeartbeats 2000000
namespace QV
open PySem L2
theorem cmulR {i j : Int} (h1 : -(18446744073709551616) < j) (h2 : j < 18446744073709551616) : CMul i j := .inr ⟨by simpa using h1, by simpa using h2⟩
theorem cmulL {i j : Int} (h1 : -(18446744073709551616) < i) (h2 : i < 18446744073709551616) : CMul i j := .inl ⟨by simpa using h1, by simpa using h2⟩
theorem cdivS {i j : Int} (h1 : 0 < j) (h2 : j < 18446744073709551616) : CDivW i j := ⟨h1, by
  have h : j.natAbs.log2 < 64 := (Nat.log2_lt (by omega)).mpr (by omega)
  omega⟩
theorem cdivB {i j : Int} (h1 : 0 < j) (h2 : j < 10000000000000000000000) : CDivW i j := ⟨h1, by
  have h : j.natAbs.log2 < 74 := (Nat.log2_lt (by omega)).mpr (by omega)
  omega⟩
theorem ixN_of {n : Nat} {i : Int} (h0 : 0 ≤ i) (h1 : i < n) : ixN n i = some i.toNat := by
  unfold ixN
  rw [if_pos h0, if_pos h1]
theorem at_lt {α : Type} {ds : List α} {i : Int} (h0 : 0 ≤ i) (h1 : i < ds.length) : ∃ d, atI ds i = some d ∧ d ∈ ds := by
  unfold atI
  rw [ixN_of h0 h1]
  have h2 : i.toNat < ds.length := by omega
  exact ⟨ds[i.toNat], by simp [h2], List.getElem_mem h2⟩
theorem at_all {α : Type} {ds : List α} {i : Int} {C : α → Prop} {R : α → Prop} (h0 : 0 ≤ i) (h1 : i < ds.length) (hC : ∀ d ∈ ds, C d) (k : ∀ d, C d → R d) : ∃ d, atI ds i = some d ∧ R d := by
  obtain ⟨d, e, m⟩ := at_lt h0 h1
  exact ⟨d, e, k d (hC d m)⟩
theorem at_of {α : Type} {l : List α} {k : Nat} {a : α} (h : l[k]? = some a) : atI l (k : Int) = some a := by
  have hk : k < l.length := (List.getElem?_eq_some_iff.mp h).1
  unfold atI
  rw [ixN_of (by omega) (by omega)]
  simpa using h
theorem at_int {α : Type} {l : List α} {i : Int} {a : α} (h0 : 0 ≤ i) (h : l[i.toNat]? = some a) : atI l i = some a := by
  have := at_of h
  rwa [Int.toNat_of_nonneg h0] at this
theorem at_last {α : Type} {l : List α} {a : α} (h : l[l.length - 1]? = some a) : atI l (-1) = some a := by
  have hk : l.length - 1 < l.length := (List.getElem?_eq_some_iff.mp h).1
  unfold atI ixN
  rw [if_neg (by omega), if_pos (by omega)]
  show l[((-1 : Int) + l.length).toNat]? = some a
  have : ((-1 : Int) + l.length).toNat = l.length - 1 := by omega
  rw [this]
  exact h
theorem cut_from {α : Type} {l : List α} {i : Int} (h : 0 ≤ i) : cutL l (some i) none = l.drop i.toNat := by
  unfold cutL
  have e : HT.sIx l.length 0 (some i) = min i.toNat l.length := by
    show (if i < 0 then (i + (l.length : Int)).toNat else min i.toNat l.length) = _
    rw [if_neg (by omega)]
  have e2 : HT.sIx l.length l.length none = l.length := rfl
  rw [e, e2]
  rcases Nat.le_total i.toNat l.length with z | z
  · rw [Nat.min_eq_left z, List.take_of_length_le (by simp)]
  · rw [Nat.min_eq_right z, List.drop_of_length_le z]; simp
theorem cut_to {α : Type} {l : List α} {i : Int} (h : 0 ≤ i) : cutL l none (some i) = l.take i.toNat := by
  unfold cutL
  have e : HT.sIx l.length l.length (some i) = min i.toNat l.length := by
    show (if i < 0 then (i + (l.length : Int)).toNat else min i.toNat l.length) = _
    rw [if_neg (by omega)]
  have e2 : HT.sIx l.length 0 none = 0 := rfl
  rw [e, e2, List.drop_zero, Nat.sub_zero]
  rcases Nat.le_total i.toNat l.length with z | z
  · rw [Nat.min_eq_left z]
  · rw [Nat.min_eq_right z, List.take_of_length_le (Nat.le_refl _), List.take_of_length_le z]
theorem cut_mid {α : Type} {l : List α} {i j : Int} (h : 0 ≤ i) (h2 : 0 ≤ j) : cutL l (some i) (some j) = (l.drop i.toNat).take (j.toNat - i.toNat) := by
  unfold cutL
  have e : HT.sIx l.length l.length (some j) = min j.toNat l.length := by
    show (if j < 0 then (j + (l.length : Int)).toNat else min j.toNat l.length) = _
    rw [if_neg (by omega)]
  have e2 : HT.sIx l.length 0 (some i) = min i.toNat l.length := by
    show (if i < 0 then (i + (l.length : Int)).toNat else min i.toNat l.length) = _
    rw [if_neg (by omega)]
  rw [e, e2]
  rcases Nat.le_total i.toNat l.length with z | z
  · rw [Nat.min_eq_left z]
    rcases Nat.le_total j.toNat l.length with y | y
    · rw [Nat.min_eq_left y]
    · rw [Nat.min_eq_right y, List.take_of_length_le (by simp), List.take_of_length_le (by simp; omega)]
  · rw [Nat.min_eq_right z, List.drop_of_length_le (Nat.le_refl _), List.drop_of_length_le z]; simp
def IsBag (t : T) : Prop := ∃ a b c : Int, ∃ ns : List Int, t = .ow .lst [.int a, .int b, .int c, .nd .lst (ns.map .int)] ∧ 0 ≤ a ∧ 0 ≤ b ∧ b < 2147483647 ∧ 0 ≤ c ∧ ∀ x, x ∈ ns → 0 ≤ x
def takeS : SemF := fun args Q E => ∃ t n, args = [t, .fz (.int n)] ∧ IsBag t ∧ 0 < n ∧ n < 18446744073709551616 ∧ ∀ v t', 0 ≤ v → v < n → IsBag t' → Q (.fz (.int v)) [t']
def bagS : SemF := fun args Q E => ∃ ns : List Int, args = [.fz (.scr ns)] ∧ ns.length ≤ 63 ∧ ∀ t', IsBag t' → Q t' []
def alikeS : SemF := fun args Q E => ∃ d : D, args = [.fz d, .fz d] ∧ d.pl 64 = true ∧ shwD d ∧ Q (.fz (.bl true)) []
def lookS (C : D → Prop) : SemF := fun args Q E => ∃ d : D, args = [.fz d] ∧ C d ∧ Q (.fz (.bl true)) []
mutual
theorem eqD_self : ∀ (n : Nat) (d : D), d.pl n = true → eqD d d = true
  | _, .non, _ => rfl
  | _, .bl _, _ => by simp [eqD]
  | _, .int _, _ => by simp [eqD]
  | _, .str _, _ => by simp [eqD]
  | n, .scr _, h => by cases n <;> simp [D.pl] at h
  | 0, .nd _ _, h => by simp [D.pl] at h
  | n + 1, .nd .lst ds, h => by rw [eqD]; exact eqDs_self n ds (by simpa [D.pl] using h)
  | n + 1, .nd .tup ds, h => by rw [eqD]; exact eqDs_self n ds (by simpa [D.pl] using h)
  | n + 1, .nd (.dK _) ds, h => by simp [D.pl] at h
  | n + 1, .nd (.dT _) ds, h => by simp [D.pl] at h
  | n + 1, .nd (.ins _ _) ds, h => by simp [D.pl] at h
theorem eqDs_self : ∀ (n : Nat) (ds : List D), Dspl n ds = true → eqDs ds ds = true
  | _, [], _ => rfl
  | n, d :: ds, h => by
    have h' : D.pl n d = true ∧ Dspl n ds = true := by simpa [Dspl] using h
    rw [eqDs, eqD_self n d h'.1, eqDs_self n ds h'.2]
    rfl
end
theorem Str.le_size {z : Str} (h : z.cps.toList.length ≤ 16777216) : z.length ≤ sizeLine := by
  have e : z.length = z.cps.toList.length := by show z.cps.size = _; simp
  rw [e]; exact h
end QV

set_option Elab.async false
set_option Elab.async false
set_option linter.all false
set_option maxRecDepth 100000
set_option maxHeartbeats 2000000
namespace QV
open PySem PySem.Spec PyProof.Rows L2
section
variable {P : Program} {w : World} {K : PySem.W.Frag} {mg mb : Str → Option Value} {k : Nat} {fa a : Addr} {p1 : Str} {sp : Sp} {st : Shared}
theorem end_core {us : List Value} (inK : K.In st.heap) (gN : st.heap.Ns mainGlobals mg) (bN : st.heap.Ns builtinsNs mb) (boot : ∀ y : Str, y ≠ "__name__" → mb y = bootBuiltins y) (lim : st.heap.NoLimit) (gens : st.gens = #[])
    (cell : st.heap.get? a = some { cls := .type "list", data := .seq us.toArray }) (room : Room k callerA) (F : ∀ base : Heap, ∃ fd, FnG P w K mg base k fa fd [p1] sp ∧ Binds K fd [p1] [])
    (H : Hp) (only : Only H) (say : sp [.ref a] H (fun v _ => v = .bl true) fun _ _ _ => False) (ok0 : HOk P w H st.heap) (just : ∀ b, H b ≠ none → b = a) (out : H a ≠ none → K.lookup a = none) :
    codeAny (model P w) callerA (.call (.ref fa) ⟨[.ref a], []⟩) (fun r s' => r = .ok (.ret (.bool true)) ∧ OldK st.heap s'.heap ∧ s'.os = st.os ∧ AllBare s'.gens) st := by
  have free : ∀ {b : Addr} {o : Obj} {es : Array DictEntry} {n : Nat}, st.heap.get? b = some o → o.data = .dict es n → H b = none := by
    intro b o es n e1 e2
    rcases Classical.em (H b = none) with z | z
    · exact z
    · have eb := just b z
      subst eb
      have := cell.symm.trans e1
      cases this
      exact Data.noConfusion e2
  have keepNs : ∀ {b : Addr} {m : Str → Option Value}, st.heap.Ns b m → (hidT st.heap H).Ns b m := by
    rintro b m ⟨o, es, n, g1, g2, rest⟩
    exact ⟨o, es, n, hidT_get g1 (free g1 g2), g2, rest⟩
  have inB : K.In (hidT st.heap H) := by
    intro b o e
    refine hidT_get (inK b o e) ?_
    rcases Classical.em (H b = none) with z | z
    · exact z
    · have eb := just b z
      subst eb
      have := (out z).symm.trans e
      cases this
  obtain ⟨mc, lim1, lim2⟩ := lim
  have md : Mod K mg (hidT st.heap H) := ⟨inB, keepNs gN, ⟨mb, keepNs bN, boot⟩, ⟨mc, keepNs lim1, lim2⟩⟩
  have none0 : ∀ {b : Addr}, b ∉ ([] : List Addr) := fun z => nomatch z
  have env0 : Env0 P w K mg (hidT st.heap H) callerA [] st H :=
    ⟨rfl, md, fun _ _ z => of_hidT z, Nat.le_of_eq (hidT_size _ _), trivial, fun _ z => absurd z none0, ok0, .of_eq gens⟩
  obtain ⟨fd, fn, bnd⟩ := F (hidT st.heap H)
  have run := fn.run callerA [] st H ⟨[.ref a], []⟩ [.ref a] [.ref a] _ _ room rfl env0 (bnd st [.ref a] inK rfl) (.cons rfl .nil) say
  refine codeAny_mono run fun r s' told => ?_
  rcases r with ex | fl
  · obtain ⟨_, _, _, _, _, _, _, _, _, _, _, _, z⟩ := told
    exact z.elim
  · cases fl with
    | ret u =>
      obtain ⟨v, H2, os, bare, un, ok2, ru, ev⟩ := told
      cases (show v = .bl true from ev)
      cases (show u = Value.bool true from ru)
      refine ⟨rfl, OldK.of_keep ?_, os, bare⟩
      intro b o e
      rcases only b with z | ⟨oo, ys, z⟩
      · exact un.keep b o e z none0 (by simp)
      · have g1 := (ok0 b _ z).1
        have g2 := (ok2 b _ (un.frzs b oo _ z)).1
        rw [e] at g1
        cases g1
        exact g2
    | next => exact told.elim
    | brk => exact told.elim
    | cont => exact told.elim
theorem end_call {us : List Value} {ns : List Int} (inK : K.In st.heap) (gN : st.heap.Ns mainGlobals mg) (bN : st.heap.Ns builtinsNs mb) (boot : ∀ y : Str, y ≠ "__name__" → mb y = bootBuiltins y) (lim : st.heap.NoLimit) (gens : st.gens = #[])
    (cell : st.heap.get? a = some { cls := .type "list", data := .seq us.toArray }) (nums : IntsAre us ns) (size : ns.length ≤ sizeLine) (room : Room k callerA) (F : ∀ base : Heap, ∃ fd, FnG P w K mg base k fa fd [p1] sp ∧ Binds K fd [p1] [])
    (say : ∀ H : Hp, SqL K H a (ns.map V.int) → sp [.ref a] H (fun v _ => v = .bl true) fun _ _ _ => False) :
    codeAny (model P w) callerA (.call (.ref fa) ⟨[.ref a], []⟩) (fun r s' => r = .ok (.ret (.bool true)) ∧ OldK st.heap s'.heap ∧ s'.os = st.os ∧ AllBare s'.gens) st := by
  have vals := vals_ints nums
  have same := nums.length
  have go := fun H => end_core (p1 := p1) (sp := sp) inK gN bN boot lim gens cell room F H
  rcases lk : K.lookup a with _ | o
  · let H0 : Hp := fun b => if b = a then some (.frz { cls := .type "list", data := .seq us.toArray } (.lst (ns.map V.int))) else none
    have at0 : H0 a = some (.frz { cls := .type "list", data := .seq us.toArray } (.lst (ns.map V.int))) := if_pos rfl
    have off : ∀ {b : Addr}, b ≠ a → H0 b = none := fun z => if_neg z
    refine go H0 (fun b => ?_) (say H0 (.inl (.inr ⟨_, at0⟩))) (fun b u z => ?_) (fun b z => ?_) fun _ => lk
    · rcases Classical.em (b = a) with z | z
      · subst z; exact .inr ⟨_, _, at0⟩
      · exact .inl (off z)
    · rcases Classical.em (b = a) with eb | eb
      · subst eb
        rw [at0] at z
        cases z
        exact ⟨cell, by rw [List.length_map]; exact size, us, _, vals, cell⟩
      · rw [off eb] at z
        cases z
    · exact Classical.byContradiction fun eb => z (off eb)
  · have e := inK a o lk
    rw [cell] at e
    cases e
    exact go (fun _ => none) (fun _ => .inl rfl) (say _ (.inr ⟨_, us.toArray, _, lk, rfl, rfl, rfl, by rw [List.size_toArray, same]; exact size, by simpa using vals⟩)) (fun _ u z => nomatch (show (none : Option HO) = some u from z)) (fun _ z => (z rfl).elim) fun z => (z rfl).elim
end
def lawS (n : Nat) : SemF := fun args Q E => ∃ ns : List Int, args = [.fz (.scr ns)] ∧ ns.length ≤ n ∧ Q (.fz (.bl true)) []
theorem say_law {K : PySem.W.Frag} {H : Hp} {a : Addr} {ns : List Int} {n : Nat} (hn : ns.length ≤ n) (h : SqL K H a (ns.map V.int)) : spQ K 1 [] (lawS n) [.ref a] H (fun v _ => v = .bl true) fun _ _ _ => False := by
  have eB : Bs H (fun _ => Lab.base) = H := by funext b; unfold Bs; exact if_pos rfl
  refine ⟨rfl, fun _ => .base, [.fz (.scr ns)], fun t _ => t = .fz (.bl true), fun _ _ => False, rfl, fun i t e => ?_, ⟨ns, rfl, hn, rfl⟩, fun v t H' ow' outs _ r _ _ q => ?_, fun _ _ _ _ _ _ _ _ _ z => z.elim⟩
  · rcases i with _ | i
    · cases e
      exact ⟨_, rfl, Tq.fz_.mpr (.scr (by rw [eB]; exact h))⟩
    · simp at e
  · subst q
    have e := Tq.rd r
    cases e
    rfl
theorem walk_ofG {l : PySem.W.OpenLaw} {n k : Nat} {q : Program} {loose : List Str} {XP : (Str → Option Value) → Heap → Prop} {YP : World → Heap → Prop} {d : DefRec} {K : Params → PySem.W.Frag} {x : Str}
    (most : l.most = some n) (small : n ≤ sizeLine) (plain : d.params.defaults = []) (room : Room k callerA) (inY : ∀ (w : World) (h : Heap), YP w h → (K w.params).In h)
    (F : ∀ (w : World) (mg : Str → Option Value) (h : Heap), (K w.params).In h → h.Ns mainGlobals mg → ∀ base : Heap, Callee l.prog w (K w.params) mg base k d.name [x] [] (lawS n)) :
    PySem.W.WalkO q loose XP YP l.row.toRowW d [] (fun f vs => PySem.call f vs) := by
  refine Att.attach_call most plain fun w s0 st mg mb fa o pm cd doc a us ns G Y _ _ _ main cell nums many gens => ?_
  have inK := inY w _ Y
  refine end_call inK G.T.g G.T.b G.T.builtins G.T.nolimit gens cell nums (Nat.le_trans many small) room (p1 := x) (sp := spQ (K w.params) 1 [] (lawS n)) (fun base => ?_) fun H h => say_law many h
  obtain ⟨f, fd, fn, e, _, bnd⟩ := F w mg _ inK G.T.g base
  have ef := main.symm.trans e
  cases ef
  exact ⟨fd, fn, bnd⟩
end QV

set_option Elab.async false
set_option linter.all false
set_option maxRecDepth 100000
set_option maxHeartbeats 2000000
namespace QV
open PySem L2
section
variable {X : Cx} {W : WX} {M : List Nat} {e : Expr} {x : Str} {root : Option Nat} {pa : SemP} {q : SemE} {pos p p2 : Pos}
theorem q_glob {n : Int} (hg : Gl X x) (hm : ∃ t, X.mg x = some (.int n t)) (hd : (x == ("__debug__" : Str)) = false := by decide) : QE X W [] (.Name x pos) (sC (.int n)) :=
  let ⟨t, h⟩ := hm
  q_const (pe_glob (v := .int n) hg h ⟨t, rfl⟩ hd) fun _ => .int n
end
def tyN : D → Option String
  | .non => some "NoneType"
  | .bl _ => some "bool"
  | .int _ => some "int"
  | .str _ => some "str"
  | .nd .lst _ => some "list"
  | .nd .tup _ => some "tuple"
  | .nd (.dK _) _ => some "dict"
  | _ => none
theorem tyx {K : PySem.W.Frag} {H : Hp} {x : V} {d : D} {n : String} (r : Rp K H x d) (h : tyN d = some n) : TyX K H x (.type n) := by
  cases r with
  | non => cases h; exact .base .non
  | bl b => cases h; exact .base (.bl b)
  | int i => cases h; exact .base (.int i)
  | str s => cases h; exact .base (.str s)
  | scr _ => cases h
  | exc0 _ _ => cases h
  | exc1 _ _ _ => cases h
  | tup c _ _ =>
    cases h
    exact .base (.tup c)
  | @cell a dx k vs ds hn c _ =>
    cases k with
    | lst => cases h; exact .base (.lst c.at_)
    | tup => exact absurd rfl hn
    | dK ks => cases h; exact .base (.dK c.at_)
    | dT ks => cases h
    | ins C ks => cases h
def kTup : D → Option Bool
  | .nd .tup _ => some true
  | d => (tyN d).map fun _ => false
def kLst : D → Option Bool
  | .nd .lst _ => some true
  | d => (tyN d).map fun _ => false
def kInt : D → Option Bool
  | .bl _ => some true
  | .int _ => some true
  | d => (tyN d).map fun _ => false
def kBl : D → Option Bool
  | .bl _ => some true
  | d => (tyN d).map fun _ => false
def kStr : D → Option Bool
  | .str _ => some true
  | d => (tyN d).map fun _ => false
def KiOk (T : String) (g : D → Option Bool) : Prop := ∀ (K : PySem.W.Frag) (d : D) (b : Bool), g d = some b → ∃ n, tyN d = some n ∧ PySem.W.kitOne K (.type n) (.type T) = some b
theorem ki_tup : KiOk "tuple" kTup := fun K d b h => by
  cases d with
  | nd k ds => cases k <;> cases h <;> exact ⟨_, rfl, rfl⟩
  | _ => cases h <;> exact ⟨_, rfl, rfl⟩
theorem ki_lst : KiOk "list" kLst := fun K d b h => by
  cases d with
  | nd k ds => cases k <;> cases h <;> exact ⟨_, rfl, rfl⟩
  | _ => cases h <;> exact ⟨_, rfl, rfl⟩
theorem ki_int : KiOk "int" kInt := fun K d b h => by
  cases d with
  | nd k ds => cases k <;> cases h <;> exact ⟨_, rfl, rfl⟩
  | _ => cases h <;> exact ⟨_, rfl, rfl⟩
theorem ki_bl : KiOk "bool" kBl := fun K d b h => by
  cases d with
  | nd k ds => cases k <;> cases h <;> exact ⟨_, rfl, rfl⟩
  | _ => cases h <;> exact ⟨_, rfl, rfl⟩
theorem ki_str : KiOk "str" kStr := fun K d b h => by
  cases d with
  | nd k ds => cases k <;> cases h <;> exact ⟨_, rfl, rfl⟩
  | _ => cases h <;> exact ⟨_, rfl, rfl⟩
def isG (g : D → Option Bool) (t : T) (Q : T → Prop) : Prop := ∃ b, g t.d = some b ∧ Q (.fz (.bl b))
theorem bt_bool : bootBuiltins "bool" = some (.type "bool") := by decide +kernel
theorem bt_isinstance : bootBuiltins "isinstance" = some (.builtin "isinstance") := by decide +kernel
section
variable {X : Cx} {W : WX} {M : List Nat} {e : Expr} {y : Str} {root : Option Nat} {pa : SemP} {q : SemE} {pos p p2 : Pos} {T' : String} {g : D → Option Bool}
theorem q_isi (ho : KiOk T' g) (hg : Gl X "isinstance") (hm : X.mg "isinstance" = none) (hg2 : Gl X y) (hm2 : X.mg y = none) (hv2 : bootBuiltins y = some (.type T')) (ha : QP X W M root e pa) (hn2 : y ≠ "__name__" := by decide) (hd2 : (y == ("__debug__" : Str)) = false := by decide)
    (he : starEach [e, .Name y p2] X.env = (false, eval e X.env) :: starEach [.Name y p2] X.env := by rfl) (he2 : starEach [.Name y p2] X.env = (false, eval (.Name y p2) X.env) :: starEach [] X.env := by rfl) (hpl : (backTo pos (starEach [.Name y p2] X.env)).any (·.1) = false := by rfl) :
    QE X W M (.Call (.Name "isinstance" p) [e, .Name y p2] [] pos) (s1 pa (isG g)) :=
  ⟨PE_imp (pe_callB call_isi hg hm bt_isinstance (pa_cons ha.run (pa_cons (pe_bltn (v := .ty T') hg2 hm2 hv2 rfl hn2 hd2) pa_nil he2) he) (by decide) (by decide) he hpl) fun σ H Qv ⟨n, ow, env, Q, E, s, hq, k, x⟩ =>
    ⟨n, ow, env, _, E, s, hq, fun v t pt H' ow' env' y1 s' o r ⟨b, hb, z⟩ => by
      obtain ⟨nm, h1, h2⟩ := ho X.K _ _ hb
      exact ⟨v, .ty T', _, _, b, rfl, .ty T', tyx (r.ro s').rd h1, h2, k (.bl b) (.fz (.bl b)) H' ow' env' y1 s' o (Tq.fz_.mpr (.bl b)) z⟩, x⟩⟩
end
theorem rps_perm {K : PySem.W.Frag} {B : Hp} {α : Type} {f : α → D} {vs ws : List V} (h : vs.Perm ws) : ∀ ps : List α, Rps K B vs (ps.map f) → ∃ qs : List α, Rps K B ws (qs.map f) ∧ qs.Perm ps := by
  induction h with
  | nil => intro ps r; exact ⟨ps, r, .refl _⟩
  | cons x _ ih =>
    intro ps r
    cases ps with
    | nil => cases r
    | cons p ps =>
      cases r with
      | cons r1 r2 =>
        obtain ⟨qs, a, b⟩ := ih ps r2
        exact ⟨p :: qs, .cons r1 a, b.cons p⟩
  | swap x y l =>
    intro ps r
    match ps, r with
    | p :: q :: ps, .cons r1 (.cons r2 r3) => exact ⟨q :: p :: ps, .cons r2 (.cons r1 r3), .swap _ _ _⟩
  | trans _ _ i1 i2 =>
    intro ps r
    obtain ⟨qs, a, b⟩ := i1 ps r
    obtain ⟨rs, c, d⟩ := i2 qs a
    exact ⟨rs, c, d.trans b⟩
theorem rps_pair {K : PySem.W.Frag} {B : Hp} {α : Type} {f : α → D} {R : V → V → Prop} {S : α → α → Prop} (hRS : ∀ x y p q, Rp K B x (f p) → Rp K B y (f q) → R x y → S p q) : ∀ {ys : List V} {qs : List α}, Rps K B ys (qs.map f) → ys.Pairwise R → qs.Pairwise S
  | [], [], _, _ => .nil
  | y :: ys, q :: qs, .cons r1 r2, h => by
    rw [List.pairwise_cons] at h ⊢
    refine ⟨fun q' m => ?_, rps_pair hRS r2 h.2⟩
    obtain ⟨i, ei⟩ := List.getElem?_of_mem m
    obtain ⟨v, e1, r⟩ := r2.get (i := i) (d := f q') (by rw [List.getElem?_map, ei]; rfl)
    exact hRS _ _ _ _ r1 r (h.1 v (List.mem_of_getElem? e1))
abbrev pairD (p : Int × Int) : D := .nd .tup [.int p.1, .int p.2]
def lexL (p q : Int × Int) : Prop := p.1 < q.1 ∨ (p.1 = q.1 ∧ p.2 ≤ q.2)
def sortPG (t : T) (Q : T → Prop) : Prop := ∃ (ps : List (Int × Int)) (B : Int), shL t = some (ps.map pairD) ∧ ps.length < 64 ∧ (∀ p, p ∈ ps → 0 ≤ p.1 ∧ p.1 < B ∧ 0 ≤ p.2 ∧ p.2 < B) ∧ ∀ qs : List (Int × Int), qs.Perm ps → qs.Pairwise lexL → Q (.ow .lst (qs.map pairD))
def sortIG (t : T) (Q : T → Prop) : Prop := ∃ ns : List Int, shL t = some (ns.map .int) ∧ ∀ ms : List Int, ms.Perm ns → ms.Pairwise (· ≤ ·) → Q (.ow .lst (ms.map .int))
section
variable {K : PySem.W.Frag}
theorem pair_tup {H : Hp} {x : V} {p : Int × Int} (r : Rp K H x (pairD p)) : TupI K H x [p.1, p.2] := by
  cases r with
  | tup c z r =>
    cases r with
    | cons r1 r =>
      cases r with
      | cons r2 r =>
        cases r
        cases r1
        cases r2
        exact ⟨_, rfl, sqT_of c⟩
  | cell hn _ _ => exact absurd rfl hn
theorem g_sortI : Op1 K (fun x H Q => rSortedI K [x] H Q) sortIG := by
  intro H ow n x t Q Qv rx ⟨ns, e, h⟩ k
  obtain ⟨a, vs, rfl, c, z, r⟩ := rx.lst e
  have ev := ints_of r
  subst ev
  refine ⟨a, ns, rfl, .inl (.inl c), fun ms p hp hs hz => ?_⟩
  exact k _ _ _ (Ow.put ow p (.tm n)) (Stp.new hz) (Tq.newL hz (by rw [List.length_map, hp.length_eq]; rw [List.length_map] at z; exact z) (of_ints ms)) (h ms hp hs)
theorem sortP_run {B : Int} {ps : List (Int × Int)} (hB : ∀ p, p ∈ ps → 0 ≤ p.1 ∧ p.1 < B ∧ 0 ≤ p.2 ∧ p.2 < B) (hl : ps.length < 64) {H : Hp} {ow : Ow} {n : Nat} {x : V} {t : T} {Q : T → Prop} {Qv : VK} (rx : Ro K H ow x t) (e : shL t = some (ps.map pairD))
    (h : ∀ qs : List (Int × Int), qs.Perm ps → qs.Pairwise lexL → Q (.ow .lst (qs.map pairD))) (k : ∀ v w H' ow', Stp [] n H ow H' ow' → Tq K H' ow' (.tm n) v w → Q w → Qv v H') : rSortU K 2 B [x] H Qv := by
  obtain ⟨a, vs, rfl, c, z, r⟩ := rx.lst e
  have bdOf : ∀ p, p ∈ ps → TS.Bd B [p.1, p.2] := fun p hp m hm => by
    have := hB p hp
    simp at hm
    rcases hm with rfl | rfl <;> omega
  have rH := r.mono (bs_same H ow)
  refine ⟨a, vs, rfl, .inl (.inl c), ?_, fun v hv => ?_, fun ys p hp hs hz => ?_⟩
  · have := r.len
    rw [List.length_map] at this
    omega
  · obtain ⟨i, ei⟩ := List.getElem?_of_mem hv
    obtain ⟨d, e1, r1⟩ := Rps.getV rH ei
    obtain ⟨q, hq, rfl⟩ := List.mem_map.mp (List.mem_of_getElem? e1)
    exact ⟨_, pair_tup r1, rfl, bdOf q hq⟩
  · obtain ⟨qs, r2, hq⟩ := rps_perm hp.symm ps r
    have hb : ∀ q, q ∈ qs → TS.Bd B [q.1, q.2] := fun q m => bdOf q (hq.mem_iff.mp m)
    have r2H := r2.mono (bs_same H ow)
    have pw : qs.Pairwise lexL := by
      have := rps_pair (f := pairD) (S := fun p q => TS.code B [p.1, p.2] ≤ TS.code B [q.1, q.2]) (fun x y p q r1 r3 hR => hR _ _ (pair_tup r1) (pair_tup r3)) r2H hs
      refine List.Pairwise.imp_of_mem (fun {p q} hp hq h => ?_) this
      exact code_lex (hb p hp) (hb q hq) h
    exact k _ _ _ (Ow.put ow p (.tm n)) (Stp.new hz) (Tq.newL hz (by rw [hp.length_eq]; exact z) r2) (h qs hq pw)
end
section
variable {X : Cx} {W : WX} {M : List Nat} {e : Expr} {root : Option Nat} {pa : SemP} {pos p : Pos}
theorem q_sortI (hg : Gl X "sorted") (hm : X.mg "sorted" = none) (ha : QP X W M root e pa) (he : starEach [e] X.env = (false, eval e X.env) :: starEach [] X.env := by rfl) (hpl : (backTo pos (starEach [] X.env)).any (·.1) = false := by rfl) : QE X W M (.Call (.Name "sorted" p) [e] [] pos) (s1 pa sortIG) :=
  q_b1 cr_sortedI g_sortI hg hm bt_sorted ha (by decide) (by decide) he hpl
theorem q_sortP (B : Int) (hg : Gl X "sorted") (hm : X.mg "sorted" = none) (ha : QP X W M root e pa) (he : starEach [e] X.env = (false, eval e X.env) :: starEach [] X.env := by rfl) (hpl : (backTo pos (starEach [] X.env)).any (·.1) = false := by rfl) :
    QE X W M (.Call (.Name "sorted" p) [e] [] pos) (s1 pa fun t Q => ∃ ps : List (Int × Int), shL t = some (ps.map pairD) ∧ ps.length < 64 ∧ (∀ p, p ∈ ps → 0 ≤ p.1 ∧ p.1 < B ∧ 0 ≤ p.2 ∧ p.2 < B) ∧ ∀ qs : List (Int × Int), qs.Perm ps → qs.Pairwise lexL → Q (.ow .lst (qs.map pairD))) :=
  q_b1 (cr_sortT (B := B) (d := 2) (by decide)) (fun H ow n x t Q Qv rx ⟨ps, e1, h1, h2, h3⟩ k => sortP_run h2 h1 rx e1 h3 k) hg hm bt_sorted ha (by decide) (by decide) he hpl
theorem q_lrng {q : SemE} {p2 p3 : Pos} (hc : X.calm = true) (hg : Gl X "list") (hm : X.mg "list" = none) (hg2 : Gl X "range") (hm2 : X.mg "range" = none) (ha : QE X W M e q) (na : starEach [e] X.env = (false, eval e X.env) :: starEach [] X.env := by rfl)
    (na2 : starEach [.Call (.Name "range" p2) [e] [] p3] X.env = (false, eval (.Call (.Name "range" p2) [e] [] p3) X.env) :: starEach [] X.env := by rfl) : QE X W M (.Call (.Name "list" p) [.Call (.Name "range" p2) [e] [] p3] [] pos)
      (fun env Q E => q env (fun t env1 => match t with | .fz (.int m) => 0 ≤ m ∧ m ≤ 16777216 ∧ Q (.ow .lst (rngD 0 m.toNat)) env1 | _ => False) E) :=
  ⟨PE_imp (pe_listRg hc hg hm (prg_1 hg2 hm2 ha.run na) na2) fun σ H Qv ⟨n, ow, env, Q, E, s, hq, k, x⟩ => ⟨n, ow, env, _, E, s, hq, fun v t H' ow' env' y1 s' o r z => by
    split at z
    · rename_i m
      obtain ⟨z1, z2, z⟩ := z
      have ev := Tq.rd r
      cases ev
      refine ⟨m, rfl, RgOk.of_le (by omega) z2 (by omega) z1, fun p hp => ?_⟩
      have e1 : rgV 0 m = (List.range m.toNat).map fun i => V.int (0 + (i : Nat)) := by unfold rgV; rw [Int.sub_zero]
      rw [e1]
      have rr : Rps X.K (Bs H' ow') ((List.range m.toNat).map fun i => V.int (0 + (i : Nat))) (rngD 0 m.toNat) := by
        unfold rngD
        have := of_ints (K := X.K) (B := Bs H' ow') ((List.range m.toNat).map fun i => (0 + (i : Nat) : Int))
        rw [List.map_map, List.map_map] at this
        exact this
      exact k _ _ _ (Ow.put ow' p (.tm n)) env' (y1.trans (Stp.new hp) (fun _ h => h) nilsub (Nat.le_refl _) (Nat.le_refl _)) (s'.stp0 (n := n) (Stp.new hp)) o (Tq.newL hp (by rw [List.length_map, List.length_range, sizeLine_eq]; omega) rr) z
    · exact z.elim, x⟩⟩
end
theorem rem_at : ∀ {ns : List Int} {k : Int}, k ∈ ns → ∃ j, ns[j]? = some k ∧ (∀ m, m < j → ns[m]? ≠ some k) ∧ ns.eraseIdx j = ns.erase k
  | n :: ns, k, h => by
    by_cases e : n = k
    · subst e
      exact ⟨0, rfl, fun m hm => by omega, by simp⟩
    · rcases List.mem_cons.mp h with z | z
      · exact absurd z.symm e
      · obtain ⟨j, h1, h2, h3⟩ := rem_at z
        refine ⟨j + 1, by simpa using h1, fun m hm => ?_, ?_⟩
        · cases m with
          | zero => simp [e]
          | succ m => simpa using h2 m (by omega)
        · rw [List.eraseIdx_cons_succ, h3, List.erase_cons_tail (by simpa using e)]
def gRem (xs ds : List D) (Q : D → List D → Prop) : Prop := match ds with
  | [.int k] => ∃ ns : List Int, xs = ns.map .int ∧ k ∈ ns ∧ Q .non ((ns.erase k).map .int)
  | _ => False
theorem m_rem {K : PySem.W.Frag} : MtO K rRemI gRem := by
  intro H B a us vs xs ds Q Qv c hz r rr h k
  unfold gRem at h
  split at h
  · rename_i m
    obtain ⟨ns, rfl, hm, q⟩ := h
    cases rr with
    | cons rv rr =>
      cases rr
      cases rv
      have ev := ints_of r
      subst ev
      obtain ⟨j, h1, h2, h3⟩ := rem_at hm
      refine ⟨a, ns, m, j, rfl, rfl, c, h1, h2, ?_⟩
      rw [h3]
      refine k _ _ _ _ .non ?_ (of_ints _) q
      rw [List.length_map] at hz ⊢
      exact Nat.le_trans (List.length_erase_le ..) hz
  · exact h.elim
section
variable {X : Cx} {W : WX} {M : List Nat} {e : Expr} {x : Str} {px : Pos}
theorem q_rem (i : Nat) {es : List Expr} {ks : List (Option Nat)} {qs : SemD} {apos cpos : Pos} (ha : QA X W M ks (e :: es) qs) (hk : (ks.all fun x => x.isNone) = true := by rfl) (hN : X.N[i]? = some x := by rfl)
    (hv : Vis X.env.scope x := by first | exact Or.inl rfl | exact Or.inr (Or.inl rfl) | exact Or.inr (Or.inr rfl)) (hd : (x == ("__debug__" : Str)) = false := by decide) (hcd : (x == ("__classdict__" : Str)) = false := by decide)
    (hbase : attributeBase (.Name x px) "remove" X.env (eval (.Name x px) X.env) = eval (.Name x px) X.env := by rfl)
    (hfew : ((backTo cpos (starEach (e :: es) X.env)).all (fun x => !x.1) && (backToKw cpos (keywordEach [] X.env)).all (fun x => x.1.isSome)
      && decide ((e :: es).length + ([] : List Keyword).length + (if ([] : List Keyword).isEmpty then 0 else 1) < 30)) = true := by rfl)
    (hline : (apos.endLine == cpos.line) = true := by rfl) (hs : starEach (e :: es) X.env = (false, eval e X.env) :: starEach es X.env := by rfl) (hplain : (backTo cpos (starEach es X.env)).any (·.1) = false := by rfl) :
    QE X W (M ++ [i]) (.Call (.Attribute (.Name x px) "remove" apos) (e :: es) [] cpos) (sMt i qs gRem) :=
  q_mt i PySem.F.slot_list_remove PySem.F.type_list_remove mt_remove m_rem ha hk hN hv hd hcd hbase hfew hline hs hplain
end
end QV

set_option Elab.async false
set_option linter.all false
set_option maxRecDepth 100000
set_option maxHeartbeats 2000000
namespace QV
open PySem L2
def Pr (io : Nat) (H : Hp) (ow : Ow) (H' : Hp) (ow' : Ow) : Prop := ∀ a o, H a = some o → (ow a = .fr ∨ ow a = .base ∨ ow a = .sl io) → H' a = some o ∧ ow' a = ow a
theorem Pr.of {io n : Nat} {M : List Nat} {H H' : Hp} {ow ow' : Ow} (h : io ∉ M) (x : Stp M n H ow H' ow') : Pr io H ow H' ow' := fun a o e q => x a o e (by rcases q with q | q | q <;> rw [q] <;> first | trivial | exact h)
theorem Pr.bs {io : Nat} {H H' : Hp} {ow ow' : Ow} (x : Pr io H ow H' ow') : Same (Bs H ow) (Bs H' ow') := fun a o e => by
  obtain ⟨e1, e2⟩ := bs_some e
  obtain ⟨h1, h2⟩ := x a o e2 (.inr (.inl e1))
  rw [bs_of (h2.trans e1)]
  exact h1
structure ItM (io : Nat) (K : PySem.W.Frag) (H : Hp) (ow : Ow) (J : It) (ds : List D) : Prop where
  go : ∀ (i : Nat) (d : D) (H' : Hp) (ow' : Ow), Pr io H ow H' ow' → ds[i]? = some d → J.go i H'
  yld : ∀ (i : Nat) (d : D) (H' : Hp) (ow' : Ow) (x : V) (H2 : Hp), Pr io H ow H' ow' → ds[i]? = some d → J.yld i H' x H2 → ∃ ow2, Ext H' ow' H2 ow2 ∧ Rp K (Bs H2 ow2) x d
  stop : ∀ (H' : Hp) (ow' : Ow), Pr io H ow H' ow' → J.stop ds.length H'
  sz : ds.length ≤ sizeLine
def tIo (K : PySem.W.Frag) (W : WX) (M : List Nat) (io : Nat) (q : SemI) : TI := fun σ H R => ∃ (n : Nat) (ow : Ow) (env : Env) (Q : List D → Env → Prop) (E : XQ), StOk K H ow σ env ∧ q env Q E ∧
  (∀ (J : It) (ds : List D) (H' : Hp) (ow' : Ow) (env' : Env), Stp M n H ow H' ow' → StOk K H' ow' σ env' → Out M env env' → ItM io K H' ow' J ds → Q ds env' → R J H') ∧ Xk K W M σ H n ow env E
structure QIo (X : Cx) (W : WX) (M : List Nat) (io : Nat) (tg e : Expr) (q : SemI) : Prop where
  run : PI X tg e (tIo X.K W M io q)
theorem itm_list {K : PySem.W.Frag} {H : Hp} {ow : Ow} {io : Nat} {a : Addr} {vs : List V} {ds : List D} (c : H a = some (.lst vs)) (hz : vs.length ≤ sizeLine) (r : Rps K (Bs H ow) vs ds) (eo : ow a = .sl io) : ItM io K H ow (Itl K a) ds := by
  have st : ∀ {H' : Hp} {ow' : Ow}, Pr io H ow H' ow' → SqL K H' a vs := fun x => .inl (.inl (x a _ c (.inr (.inr eo))).1)
  refine ⟨fun i d H' ow' x e => ?_, fun i d H' ow' y H2 x e q => ?_, fun H' ow' x => ⟨vs, st x, Nat.le_of_eq r.len⟩, by rw [← r.len]; exact hz⟩
  · obtain ⟨v, e1, _⟩ := r.get e
    exact ⟨vs, v, st x, e1⟩
  · obtain ⟨rfl, hy⟩ := q
    obtain ⟨v, e1, r1⟩ := r.get e
    have ev := hy vs (st x)
    rw [e1] at ev
    cases ev
    exact ⟨ow', Ext.refl, r1.mono x.bs⟩
theorem itm_listF {K : PySem.W.Frag} {H : Hp} {ow : Ow} {io : Nat} {a : Addr} {vs : List V} {ds : List D} (c : SqL K (Bs H ow) a vs) (hz : vs.length ≤ sizeLine) (r : Rps K (Bs H ow) vs ds) : ItM io K H ow (Itl K a) ds := by
  have st : ∀ {H' : Hp} {ow' : Ow}, Pr io H ow H' ow' → SqL K H' a vs := fun x => (bs_same _ _).seq (x.bs.seq c)
  refine ⟨fun i d H' ow' x e => ?_, fun i d H' ow' y H2 x e q => ?_, fun H' ow' x => ⟨vs, st x, Nat.le_of_eq r.len⟩, by rw [← r.len]; exact hz⟩
  · obtain ⟨v, e1, _⟩ := r.get e
    exact ⟨vs, v, st x, e1⟩
  · obtain ⟨rfl, hy⟩ := q
    obtain ⟨v, e1, r1⟩ := r.get e
    have ev := hy vs (st x)
    rw [e1] at ev
    cases ev
    exact ⟨ow', Ext.refl, r1.mono x.bs⟩
def iOwn (i : Nat) : SemI := fun env Q _ => match env[i]? with
  | some (some (.ow .lst ds)) => Q ds env
  | some (some (.fz (.nd .lst ds))) => Q ds env
  | _ => False
theorem i_own {X : Cx} {W : WX} {tg : Expr} {x : Str} {px : Pos} (i : Nat) (hN : X.N[i]? = some x := by rfl) (hv : Vis X.env.scope x := by first | exact Or.inl rfl | exact Or.inr (Or.inl rfl) | exact Or.inr (Or.inr rfl)) (hd : (x == ("__debug__" : Str)) = false := by decide)
    (hcd : (x == ("__classdict__" : Str)) = false := by decide) : QIo X W [] i tg (.Name x px) (iOwn i) :=
  ⟨PI_imp (pi_list (pe_var (i := i) hN hv hd hcd)) fun σ H R ⟨n, ow, env, Q, E, s, hq, k, xx⟩ => by
    unfold iOwn at hq
    split at hq
    · rename_i ds e
      obtain ⟨a, vs, e1, c, hz, r, eo⟩ := own_at s e
      exact ⟨.ref a, e1, a, rfl, ⟨vs, .inl (.inl c)⟩, k _ _ H ow env Stp.refl s Out.refl (itm_list c hz r eo) hq⟩
    · rename_i ds e
      obtain ⟨v, e1, r0⟩ := s.at_ i _ e
      obtain ⟨a, vs, rfl, c, hz, r⟩ := fz_lst r0
      exact ⟨.ref a, e1, a, rfl, ⟨vs, (bs_same _ _).seq c⟩, k _ _ H ow env Stp.refl s Out.refl (itm_listF c hz r) hq⟩
    · exact hq.elim⟩
theorem lcO_run {io : Nat} {K : PySem.W.Frag} {W : WX} {Mi Mt Me SS vs : List Nat} {qi : SemI} {g : SemG} {t : SemT} {q : SemE} (hso : io ∉ Mi ++ (Mt ++ Me)) (hs : ∀ i ∈ SS, i ∈ vs) (hv : ∀ i ∈ vs, i ∉ Mt ++ Me) {σ : L2.St} {H : Hp} {Qv : VK} (h : tQ K W (Mi ++ (Mt ++ Me)) (sLc qi g t q vs) σ H Qv) :
    tLc (tIo K W Mi io qi) (tG K SS g) (tT K W0 Mt t) (tQ K W0 Me q) vs σ H Qv := by
  obtain ⟨n, ow, env, Q, E, s, hq, k, x⟩ := h
  refine ⟨n, ow, env, _, E, s, hq, fun J ds H1 ow1 env1 y1 s1 o1 J1 hI => ?_, fun r d H' ow' env' y s' o => x r d H' ow' env' (y.mono subl (Nat.le_refl _)) s' (o.mono subl)⟩
  obtain ⟨I, i0, it, ie⟩ := hI.ex
  intro D hD
  have key : ∀ {H' : Hp} {ow' : Ow}, Stp (Mi ++ (Mt ++ Me)) n H1 ow1 H' ow' → Stp (Mi ++ (Mt ++ Me)) n H ow H' ow' := fun y => y1.trans y subl (fun _ h => h) (Nat.le_refl _) (Nat.le_refl _)
  refine ⟨fun j m H' => m = ds.length - j ∧ j ≤ ds.length ∧ ∃ ow' env' acc us, Stp (Mi ++ (Mt ++ Me)) n H1 ow1 H' ow' ∧ StOk K H' ow' σ env' ∧ Out (Mi ++ (Mt ++ Me)) env1 env' ∧ H' D = some (.lst us) ∧ ow' D = .tm n ∧ Rps K (Bs H' ow') us acc ∧ us.length ≤ j ∧ I j acc env',
    ⟨ds.length, by simp, Nat.zero_le _, Ow.put ow1 D (.tm n), env1, [], [], Stp.new hD, s1.stp0 (n := 0) (Stp.new hD), Out.refl, upd_same, put_same, .nil, Nat.le_refl _, i0⟩, ?_⟩
  rintro j m H' ⟨rfl, hj, ow', env', acc, us, y', s', o', hDl, hDo, hr, hl, ij⟩
  by_cases hlt : j < ds.length
  · have hd : ds[j]? = some ds[j] := by simp [hlt]
    refine .inr ⟨J1.go j _ H' ow' (Pr.of hso y') hd, fun H5 => ∃ ow5 env5 acc5 us5, Stp (Mi ++ (Mt ++ Me)) n H1 ow1 H5 ow5 ∧ StOk K H5 ow5 σ env5 ∧ Out (Mi ++ (Mt ++ Me)) env1 env5 ∧ H5 D = some (.lst us5) ∧ ow5 D = .tm n ∧ Rps K (Bs H5 ow5) us5 acc5 ∧ us5.length ≤ j + 1 ∧ I (j + 1) acc5 env5,
      fun H5 ⟨ow5, env5, acc5, us5, q5⟩ => ⟨ds.length - (j + 1), by omega, rfl, hlt, ow5, env5, acc5, us5, q5⟩, fun xv H2 yl => ?_⟩
    obtain ⟨ow2, ex, rx⟩ := J1.yld j _ H' ow' xv H2 (Pr.of hso y') hd yl
    have y2 : Stp (Mi ++ (Mt ++ Me)) n H' ow' H2 ow2 := ex.stp
    have s2 : StOk K H2 ow2 σ env' := s'.stp0 (n := 0) ex.stp
    refine ⟨ow2, wipeE env' vs, _, _, s2.wipe, rx, it j _ acc env' hd ij, fun σ3 env3 tc oT s3 z3 => ?_⟩
    refine ⟨wipe_tch tc hs, n + 1, ow2, env3, _, noX, s3, z3, fun b H3 ow3 env4 y3 s4 o4 z4 => ?_, xk0⟩
    have hD2 := (ex D _ hDl)
    have hD3 := y3 D _ hD2.1 (by rw [hD2.2, hDo]; exact Nat.lt_succ_self n)
    have hDo3 : ow3 D = .tm n := by rw [hD3.2, hD2.2, hDo]
    have same3 : Same (Bs H' ow') (Bs H3 ow3) := fun a o e => y3.bs a o (y2.bs a o e)
    have y23 : Stp (Mi ++ (Mt ++ Me)) n H' ow' H3 ow3 := y2.trans y3 (fun _ h => h) mem3.2.1 (Nat.le_refl _) (Nat.le_succ _)
    have outs : ∀ {e5 : Env} {H5 : Hp} {ow5 : Ow}, Out (Mt ++ Me) env3 e5 → StOk K H5 ow5 σ3 e5 → Out (Mi ++ (Mt ++ Me)) env1 (rstE env' vs e5) := fun {e5 H5 ow5} oo ss => by
      refine ⟨?_, fun i hi => ?_⟩
      · rw [rstE_len, ss.len, tc.len, wipe_length, ← s'.len, o'.len]
      · rw [← o'.eq i hi]
        by_cases hiv : i ∈ vs
        · by_cases hil : i < env'.length
          · have : ∀ {vs : List Nat}, i ∈ vs → (rstE env' vs e5)[i]? = some ((env'[i]?).getD none) := fun {vs} hm => by
              induction vs with
              | nil => simp at hm
              | cons v vs ih =>
                unfold rstE
                by_cases hv2 : v = i
                · subst hv2
                  exact List.getElem?_set_self (by rw [rstE_len, ss.len, tc.len, wipe_length, ← s'.len]; exact hil)
                · rw [List.getElem?_set_ne hv2]
                  exact ih ((List.mem_cons.mp hm).resolve_left fun z => hv2 z.symm)
            rw [this hiv]
            have e : env'[i]? = some env'[i] := by simp [hil]
            rw [e]
            rfl
          · rw [List.getElem?_eq_none (by rw [rstE_len, ss.len, tc.len, wipe_length, ← s'.len]; omega), List.getElem?_eq_none (by omega)]
        · rw [rstE_out hiv, oo.eq i fun z => hi (subr i z)]
          rw [oT.eq i fun z => hiv (hs i z)]
          exact wipeE_out hiv
    have carV : ∀ {H5 : Hp} {ow5 : Ow}, Stp (Mt ++ Me) (n + 1) H2 ow2 H5 ow5 → ∀ i ∈ vs, Car H2 H5 ow2 ow5 (.sl i) (.sl i) := fun {H5 ow5} yy i hi => yy.car (l := .sl i) (hv i hi)
    cases b with
    | false =>
      refine iteF ?_
      have y3' : Stp (Mt ++ Me) (n + 1) H2 ow2 H3 ow3 := y3.mono subl (Nat.le_refl _)
      exact ⟨ow3, _, acc, us, y'.trans y23 (fun _ h => h) (fun _ h => h) (Nat.le_refl _) (Nat.le_refl _), s2.rst s4 tc hs (carV y3'), outs (o4.mono subl) s4, hD3.1, hDo3, hr.mono same3, Nat.le_succ_of_le hl, z4.2 rfl⟩
    | true =>
      refine iteT ?_
      refine ⟨n + 1, ow3, env4, _, noX, s4, z4.1 rfl, fun v w H4 ow4 env5 y4 s5 o5 r4 z5 => ?_, xk0⟩
      split at z5
      · rename_i e
        have rv := Tq.fz_.mp r4
        have hD4 := y4 D _ hD3.1 (by rw [hDo3]; exact Nat.lt_succ_self n)
        have hDo4 : ow4 D = .tm n := by rw [hD4.2, hDo3]
        have same4 : Same (Bs H' ow') (Bs H4 ow4) := fun a o e => y4.bs a o (same3 a o e)
        have yu : Stp (Mt ++ Me) n H4 ow4 (upd H4 D (.lst (us ++ [v]))) ow4 := fun a o ea pa => by
          have ne : a ≠ D := fun z => by
            rw [z, hDo4] at pa
            exact absurd pa (Nat.lt_irrefl n)
          exact ⟨by rw [upd_ne ne]; exact ea, rfl⟩
        have y34 : Stp (Mt ++ Me) (n + 1) H2 ow2 H4 ow4 := y3.trans y4 subl subr (Nat.le_refl _) (Nat.le_refl _)
        have y25 : Stp (Mt ++ Me) n H2 ow2 (upd H4 D (.lst (us ++ [v]))) ow4 := y34.trans yu (fun _ h => h) (fun _ h => h) (Nat.le_succ _) (Nat.le_refl _)
        have s5u : StOk K (upd H4 D (.lst (us ++ [v]))) ow4 σ3 env5 := ⟨s5.len, fun i t e => by
          obtain ⟨w, e1, r⟩ := s5.at_ i t e
          refine ⟨w, e1, Car.tq ⟨yu.bs, fun a o ea eo => ?_⟩ r⟩
          have ne : a ≠ D := fun z => by
            rw [z, hDo4] at eo
            cases eo
          exact ⟨by rw [upd_ne ne]; exact ea, eo⟩⟩
        have carU : ∀ i ∈ vs, Car H2 (upd H4 D (.lst (us ++ [v]))) ow2 ow4 (.sl i) (.sl i) := fun i hi => ⟨y25.bs, fun a o ea eo => by
          obtain ⟨e1, e2⟩ := y34 a o ea (by rw [eo]; exact hv i hi)
          have ne : a ≠ D := fun z => by
            rw [z, hDo4] at e2
            rw [z] at eo
            rw [eo] at e2
            cases e2
          exact ⟨by rw [upd_ne ne]; exact e1, e2.trans eo⟩⟩
        have yall : Stp (Mi ++ (Mt ++ Me)) n H1 ow1 (upd H4 D (.lst (us ++ [v]))) ow4 := (y'.trans y2 (fun _ h => h) (fun _ h => h) (Nat.le_refl _) (Nat.le_refl _)).trans y25 (fun _ h => h) subr (Nat.le_refl _) (Nat.le_refl _)
        refine ⟨us, hD4.1, Nat.lt_of_le_of_lt hl (Nat.lt_of_lt_of_le hlt J1.sz), ow4, _, acc ++ [e], us ++ [v], yall, s2.rst s5u tc hs carU, outs (o4.trans o5 subl subr) s5, upd_same, hDo4, ?_, by rw [List.length_append]; simpa using hl, z5⟩
        exact (hr.mono fun a o e => yu.bs a o (same4 a o e)).app (.cons (rv.mono yu.bs) .nil)
      · exact z5.elim
  · have e : j = ds.length := by omega
    subst e
    exact .inl ⟨J1.stop H' ow' (Pr.of hso y'), k (.ref D) (.ow .lst acc) H' ow' env' (key y') s' (o1.trans o' subl (fun _ h => h)) ⟨_, .ow (dx := D) ⟨hDl, Nat.le_trans hl J1.sz, trivial⟩ (fun b fb => by
      have eb : b = D := fb
      rw [eb]; exact hDo) hr⟩ (ie acc env' ij)⟩
section
variable {X : Cx} {W : WX} {io : Nat} {Mi Mt Me M IO SS : List Nat} {elt tg iter e : Expr} {ifs : List Expr} {scope : Scope} {own : List (Str × Nat)} {pos spos py : Pos} {qi : SemI} {g : SemG} {t : SemT} {q : SemE} {y : Str} {i : Nat}
theorem q_lcO (hc : X.calm = true) (hN : X.N.Nodup) (hi : QIo X W Mi io tg iter qi) (ok : BlkOk X.N X.env.scope scope own)
    (hg : ∀ (s : Shared) (H : Hp) (C : Addr) (cl : List (Str × Addr)) (fp : List Addr), QG (X.blk s H scope (compEnvC scope cl C X.env) fp) SS tg g) (ht : ∀ (s : Shared) (H : Hp) (C : Addr) (cl : List (Str × Addr)) (fp : List Addr), QTs (X.blk s H scope (compEnvC scope cl C X.env) fp) W0 Mt ifs t)
    (he : ∀ (s : Shared) (H : Hp) (C : Addr) (cl : List (Str × Addr)) (fp : List Addr), QE (X.blk s H scope (compEnvC scope cl C X.env) fp) W0 Me elt q) (hso : io ∉ Mi ++ (Mt ++ Me) := by decide) (hs : ∀ i ∈ SS, i ∈ own.map (·.2) := by decide) (hv : ∀ i ∈ own.map (·.2), i ∉ Mt ++ Me := by decide)
    (hf : ∀ x, foldedSetIterable iter X.env x = pure x := by intro _; rfl) : QE X W (Mi ++ (Mt ++ Me)) (.ListComp elt [⟨tg, iter, ifs, 0⟩] scope pos) (sLc qi g t q (own.map (·.2))) :=
  ⟨PE_imp (pe_lc hc hN hi.run ok (fun s H C cl fp => (hg s H C cl fp).run) (fun s H C cl fp => (ht s H C cl fp).run) (fun s H C cl fp => (he s H C cl fp).run) hf) fun _ _ _ h => lcO_run hso hs hv h⟩
theorem s_setLcO (i : Nat) (hc : X.calm = true) (hN : X.N.Nodup) (hi : QIo X W Mi io tg iter qi) (ok : BlkOk X.N X.env.scope scope own)
    (hg : ∀ (s : Shared) (H : Hp) (C : Addr) (cl : List (Str × Addr)) (fp : List Addr), QG (X.blk s H scope (compEnvC scope cl C X.env) fp) SS tg g) (ht : ∀ (s : Shared) (H : Hp) (C : Addr) (cl : List (Str × Addr)) (fp : List Addr), QTs (X.blk s H scope (compEnvC scope cl C X.env) fp) W0 Mt ifs t)
    (he : ∀ (s : Shared) (H : Hp) (C : Addr) (cl : List (Str × Addr)) (fp : List Addr), QE (X.blk s H scope (compEnvC scope cl C X.env) fp) W0 Me elt q) (hy : X.N[i]? = some y := by rfl) (hyl : X.env.scope.names.lookup y = some .local := by rfl)
    (hsw : swapsWith (.ListComp elt [⟨tg, iter, ifs, 0⟩] scope pos) (some (.Name y py)) spos.line X.env = pure true := by exact sw_true rfl rfl rfl (by decide +kernel)) (hso : io ∉ Mi ++ (Mt ++ Me) := by decide) (hs : ∀ i ∈ SS, i ∈ own.map (·.2) := by decide) (hv : ∀ i ∈ own.map (·.2), i ∉ Mt ++ Me := by decide) (hio : i ∉ IO := by decide)
    (hf : ∀ x, foldedSetIterable iter X.env x = pure x := by intro _; rfl) : QS X W IO (.Assign [.Name y py] (.ListComp elt [⟨tg, iter, ifs, 0⟩] scope pos) spos) (sSet i (sLc qi g t q (own.map (·.2)))) :=
  ⟨PS_imp (ps_setLc hc hN hy hyl hsw hi.run ok (fun s H C cl fp => (hg s H C cl fp).run) (fun s H C cl fp => (ht s H C cl fp).run) (fun s H C cl fp => (he s H C cl fp).run) hf) fun _ _ _ h => set_run (M := Mi ++ (Mt ++ Me)) hio h fun _ z => lcO_run hso hs hv z⟩
theorem s_setLcFO (i : Nat) (hc : X.calm = true) (hN : X.N.Nodup) (hi : QIo X W Mi io tg iter qi) (ok : BlkOk X.N X.env.scope scope own)
    (hg : ∀ (s : Shared) (H : Hp) (C : Addr) (cl : List (Str × Addr)) (fp : List Addr), QG (X.blk s H scope (compEnvC scope cl C X.env) fp) SS tg g) (ht : ∀ (s : Shared) (H : Hp) (C : Addr) (cl : List (Str × Addr)) (fp : List Addr), QTs (X.blk s H scope (compEnvC scope cl C X.env) fp) W0 Mt ifs t)
    (he : ∀ (s : Shared) (H : Hp) (C : Addr) (cl : List (Str × Addr)) (fp : List Addr), QE (X.blk s H scope (compEnvC scope cl C X.env) fp) W0 Me elt q) (hy : X.N[i]? = some y := by rfl) (hyl : X.env.scope.names.lookup y = some .local := by rfl)
    (hsw : swapsWith (.ListComp elt [⟨tg, iter, ifs, 0⟩] scope pos) (some (.Name y py)) spos.line X.env = pure true := by exact sw_true rfl rfl rfl (by decide +kernel)) (hso : io ∉ Mi ++ (Mt ++ Me) := by decide) (hs : ∀ i ∈ SS, i ∈ own.map (·.2) := by decide) (hv : ∀ i ∈ own.map (·.2), i ∉ Mt ++ Me := by decide) (hio : i ∉ IO := by decide)
    (hf : ∀ x, foldedSetIterable iter X.env x = pure x := by intro _; rfl) : QS X W IO (.Assign [.Name y py] (.ListComp elt [⟨tg, iter, ifs, 0⟩] scope pos) spos) (sSet i (sFz (sLc qi g t q (own.map (·.2))))) :=
  ⟨PS_imp (ps_setLc hc hN hy hyl hsw hi.run ok (fun s H C cl fp => (hg s H C cl fp).run) (fun s H C cl fp => (ht s H C cl fp).run) (fun s H C cl fp => (he s H C cl fp).run) hf) fun _ _ _ h => set_run (M := Mi ++ (Mt ++ Me)) hio h fun _ z => lcO_run hso hs hv (fz_run z)⟩
end
end QV

set_option Elab.async false
set_option linter.all false
set_option maxRecDepth 100000
set_option maxHeartbeats 2000000
namespace QV
open PySem L2
mutual
def shrt : D → Bool
  | .non => true
  | .bl _ => true
  | .int i => decide (i.natAbs < 10000000000000000000000000000000000000000)
  | .str x => x.cps.toList.all fun c => decide (c < 16 ^ 8)
  | .nd .lst ds => shrts ds
  | .nd .tup ds => shrts ds
  | _ => true
def shrts : List D → Bool
  | [] => true
  | d :: ds => shrt d && shrts ds
end
mutual
def szD : D → Nat
  | .int _ => 140
  | .str x => x.cps.size
  | .nd .lst ds => szDs ds
  | .nd .tup ds => szDs ds
  | _ => 0
def szDs : List D → Nat
  | [] => 0
  | d :: ds => szD d + 1 + szDs ds
end
theorem log2_40 {i : Int} (h : i.natAbs < 10000000000000000000000000000000000000000) : i.natAbs.log2 < 133 := by
  rcases Nat.eq_zero_or_pos i.natAbs with z | z
  · rw [z]; decide
  · exact (Nat.log2_lt (by omega)).mpr (by omega)
mutual
theorem shrt_ok : ∀ d : D, shrt d = true → d.py.leavesShort 41 = true ∧ d.py.showable = true ∧ d.py.weight ≤ szD d
  | .non, _ => ⟨rfl, rfl, by simp [D.py, PyData.weight]⟩
  | .bl _, _ => ⟨rfl, rfl, by simp [D.py, PyData.weight]⟩
  | .int i, h => by
    have h' : i.natAbs < 10000000000000000000000000000000000000000 := by simpa [shrt] using h
    refine ⟨?_, ?_, ?_⟩
    · simp only [D.py, PyData.leavesShort, decide_eq_true_eq]
      have e := int_text_length_le10 (k := 40) (by decide) (show i.natAbs < 10 ^ 40 by omega)
      have e2 : (PyData.int i).shown.length = (toString i).length := by
        rw [PyData.shown_int]
        exact ofString_length _
      rw [e2]
      exact e
    · simp only [D.py, PyData.showable, decide_eq_true_eq]
      have := log2_40 h'
      omega
    · simp only [D.py, PyData.weight, szD]
      have := log2_40 h'
      split <;> omega
  | .str x, h => by
    refine ⟨by simpa [D.py, PyData.leavesShort, shrt] using h, rfl, by simp [D.py, PyData.weight, szD]⟩
  | .scr _, _ => ⟨rfl, rfl, by simp [D.py, PyData.weight]⟩
  | .exc _ _ _ _ _, _ => ⟨rfl, rfl, by simp [D.py, PyData.weight]⟩
  | .nd .lst ds, h => by
    obtain ⟨a, b, c⟩ := shrts_ok ds (by simpa [shrt] using h)
    exact ⟨by simpa [D.py, PyData.leavesShort] using a, by simpa [D.py, PyData.showable] using b, by simpa [D.py, PyData.weight, szD] using c⟩
  | .nd .tup ds, h => by
    obtain ⟨a, b, c⟩ := shrts_ok ds (by simpa [shrt] using h)
    exact ⟨by simpa [D.py, PyData.leavesShort] using a, by simpa [D.py, PyData.showable] using b, by simpa [D.py, PyData.weight, szD] using c⟩
  | .nd (.dK _) ds, _ => ⟨rfl, rfl, by simp [D.py, PyData.weight]⟩
  | .nd (.dT _) ds, _ => ⟨rfl, rfl, by simp [D.py, PyData.weight]⟩
  | .nd (.ins _ _) ds, _ => ⟨rfl, rfl, by simp [D.py, PyData.weight]⟩
theorem shrts_ok : ∀ ds : List D, shrts ds = true → PyData.leavesShortAll 41 (Dspy ds) = true ∧ PyData.showableAll (Dspy ds) = true ∧ PyData.weightAll (Dspy ds) ≤ szDs ds
  | [], _ => ⟨rfl, rfl, by simp [Dspy, PyData.weightAll]⟩
  | d :: ds, h => by
    have h' : shrt d = true ∧ shrts ds = true := by simpa [shrts] using h
    obtain ⟨a, b, c⟩ := shrt_ok d h'.1
    obtain ⟨a', b', c'⟩ := shrts_ok ds h'.2
    exact ⟨by simp [Dspy, PyData.leavesShortAll, a, a'], by simp [Dspy, PyData.showableAll, b, b'], by simp only [Dspy, PyData.weightAll, szDs]; omega⟩
end
theorem shw_of {d : D} (h : shrt d = true) (hz : szD d ≤ 262144) : shwD d := by
  obtain ⟨a, b, c⟩ := shrt_ok d h
  refine ⟨b, Nat.le_trans (PyData.shown_le 41 (by decide) _ a) ?_⟩
  have h1 : (41 + 2) * d.py.weight + 41 ≤ 43 * 262144 + 41 := by omega
  exact Nat.le_trans h1 (by rw [sizeLine_eq]; decide)
theorem shrts_all : ∀ {ds : List D}, (∀ d, d ∈ ds → shrt d = true) → shrts ds = true
  | [], _ => rfl
  | d :: ds, h => by simp [shrts, h d (by simp), shrts_all (ds := ds) fun e he => h e (by simp [he])]
theorem szDs_le {k : Nat} : ∀ {ds : List D}, (∀ d, d ∈ ds → szD d ≤ k) → szDs ds ≤ ds.length * (k + 1)
  | [], _ => by simp [szDs]
  | d :: ds, h => by
    have h1 := h d (by simp)
    have h2 := szDs_le (ds := ds) fun e he => h e (by simp [he])
    simp only [szDs, List.length_cons, Nat.succ_mul]
    omega
theorem pls_all {n : Nat} : ∀ {ds : List D}, (∀ d, d ∈ ds → d.pl n = true) → Dspl n ds = true
  | [], _ => rfl
  | d :: ds, h => by simp [Dspl, h d (by simp), pls_all (ds := ds) fun e he => h e (by simp [he])]
theorem pl_lst {n : Nat} {ds : List D} (h : ∀ d, d ∈ ds → d.pl n = true) : (D.nd .lst ds).pl (n + 1) = true := by rw [D.pl]; exact pls_all h
theorem pl_tup {n : Nat} {ds : List D} (h : ∀ d, d ∈ ds → d.pl n = true) : (D.nd .tup ds).pl (n + 1) = true := by rw [D.pl]; exact pls_all h
theorem eq_nil {ds : List D} : eqD (.nd .lst ds) (.nd .lst []) = ds.isEmpty := by
  cases ds <;> simp [eqD, eqDs]
theorem lex_uniq : ∀ {xs ys : List (Int × Int)}, xs.Perm ys → xs.Pairwise lexL → ys.Pairwise lexL → xs = ys
  | [], ys, h, _, _ => (List.Perm.nil_eq h)
  | x :: xs, [], h, _, _ => by have := h.length_eq; simp at this
  | x :: xs, y :: ys, h, h1, h2 => by
    rw [List.pairwise_cons] at h1 h2
    have exy : x = y := by
      have m1 : x ∈ y :: ys := h.mem_iff.mp (by simp)
      have m2 : y ∈ x :: xs := h.mem_iff.mpr (by simp)
      rcases List.mem_cons.mp m1 with z | z
      · exact z
      · rcases List.mem_cons.mp m2 with w | w
        · exact w.symm
        · have a := h1.1 y w
          have b := h2.1 x z
          unfold lexL at a b
          exact Prod.ext (by omega) (by omega)
    subst exy
    rw [lex_uniq (List.Perm.cons_inv h) h1.2 h2.2]
theorem two_sorted {a b : Int} {ms : List Int} (h : ms.Perm [a, b]) (hs : ms.Pairwise (· ≤ ·)) : ms = if a ≤ b then [a, b] else [b, a] := by
  match ms, h.length_eq with
  | [x, y], _ =>
    have hxy : x ≤ y := by simpa using hs
    have mx : x ∈ [a, b] := h.mem_iff.mp (by simp)
    have my : y ∈ [a, b] := h.mem_iff.mp (by simp)
    have ma : a ∈ [x, y] := h.mem_iff.mpr (by simp)
    have mb : b ∈ [x, y] := h.mem_iff.mpr (by simp)
    simp at mx my ma mb
    split
    · rcases mx with rfl | rfl <;> rcases my with rfl | rfl <;> simp_all <;> omega
    · rcases mx with rfl | rfl <;> rcases my with rfl | rfl <;> simp_all <;> omega
end QV

set_option Elab.async false
set_option linter.all false
set_option maxRecDepth 100000
set_option maxHeartbeats 2000000
namespace QV
open PySem PySem.Spec PyProof.Rows L2
section
variable {X : Cx} {e : Expr} {es : List Expr} {ta : TA} {b : Str} {S : Addr} {p1 p2 pos : Pos}
theorem pe_binit {pl : Sem Bool} (hg : Gl X b) (hm : X.mg b = some (.ref S)) (h1 : PySem.W.specialIn X.K (.ref S) "__getattribute__" = some (some (.builtin "type.__getattribute__"))) (h2 : PySem.W.readsIn X.K S (.type "type") = true)
    (h3 : PySem.W.findCls X.K (.ref S) (.type "type") "__init__" = some (.val (.builtin "ValueError.__init__"))) (ha : PA X (e :: es) ta)
    (hc : eval (.Call (.Attribute (.Name b p1) "__init__" p2) (e :: es) [] pos) X.env = (do
      let own ← eval (.Name b p1) X.env
      standAt p2.atName
      let (init, self) ← holding [own] (getMethod own "__init__" pl)
      callWith pos init self (backTo pos (starEach (e :: es) X.env)) (backToKw pos (keywordEach [] X.env))) := by rfl)
    (hd : (b == ("__debug__" : Str)) = false := by decide) (he : starEach (e :: es) X.env = (false, eval e X.env) :: starEach es X.env := by rfl) (hpl : (backTo pos (starEach es X.env)).any (·.1) = false := by rfl) :
    PE X (.Call (.Attribute (.Name b p1) "__init__" p2) (e :: es) [] pos) (tVeI X.K ta) := by
  constructor
  intro pins s σ H Q I h
  refine PySem.W.methodCall_KW (ld_glob I hg hm ?_ hd) hc
  refine PySem.W.method_cls I.kIn h1 (PySem.W.cls_value I.kIn h2 h3 (by decide +kernel) ?_)
  show wpAny _ _ (callWith pos (Value.builtin "ValueError.__init__") [] (backTo pos (starEach (e :: es) X.env)) []) _ _ _
  refine PyProof.Rows.callWith_method1 (thn (ha.run pos pins _ σ H _ (I.tok _) h) fun us s1 ⟨vs, H1, J, rel, a, C, ws, ev, few, T, at0, q⟩ => ?_) he hpl
  cases ev
  cases rel with
  | cons ra rest =>
    cases (show _ = Value.ref a from ra)
    refine oinit_ok T J at0 ?_ fun s2 J2 => ⟨.non, H1, J2, rfl, q⟩
    have := Paired.length rest
    rw [sizeLine_eq]
    omega
end
section
variable {X : Cx}
theorem bare_end {pins : List (Addr × Obj)} {σ : L2.St} {Ha Hb : Hp} {ha hm hz : Heap} {ga gz : Array GenState} {da dz : Drawn} {ta tz : Nat} {oa oz : OsState} {x C : Addr} (I : Inv X pins σ Ha ⟨ha, ga, da, ta, oa⟩)
    (big : ha.objs.size ≤ x) (grow : ∀ b o, ha.get? b = some o → hm.get? b = some o) (un : Un (frs X.stack) [] (upd Ha x (exo x C none)) Hb hm hz) (ok : HOk X.prog X.w Hb hz) (os : oz = oa) (bare : AllBare gz) (at0 : Hb x = some (exo x C none)) :
    ∃ (t0 : Addr) (G : Heap), Inv X pins σ (del Hb x) ⟨G, gz, dz, tz, oz⟩ ∧ (∀ b o, G.get? b = some o → hz.get? b = some o) ∧ G.get? x = none ∧
      hz.get? x = some ({ cls := .ref C, dict := none, data := .fields #[.ref t0, .none, .none, .none, .bool false, .none] } : Obj) ∧ del Hb x x = none := by
  obtain ⟨t0, stands⟩ := exo_at ok at0
  have fresh : Ha x = none := I.hok.fresh big
  obtain ⟨G, same, gone⟩ := restrict hz fun b => decide (b ≠ x)
  have same : ∀ {b}, b ≠ x → G.get? b = hz.get? b := fun {b} z => same b (decide_eq_true z)
  have gone : G.get? x = none := gone x (by simp)
  have off : ∀ {b : Addr} {o : Obj}, ha.get? b = some o → b ≠ x := fun {b o} z e => by
    subst e
    exact absurd (Heap.lt_size z) (Nat.not_lt.mpr big)
  have mid : ∀ {b : Addr}, b ≠ x → Ha b = none → upd Ha x (exo x C none) b = none := fun {b} z n => (upd_ne z).trans n
  have U : Un (frs X.stack) [] Ha (del Hb x) ha G := {
    keep := fun b o z n f y => (same (off z)).trans (un.keep b o (grow b o z) (mid (off z) n) f y)
    slot := fun b o z n f y => by
      rw [same (off z)]
      exact un.slot b o (grow b o z) (mid (off z) n) f y
    free := fun b o z n y => (del_ne (off z)).trans (un.free b o (grow b o z) (mid (off z) n) y)
    there := fun b o z y => by
      rw [same (off z)]
      exact un.there b o (grow b o z) y
    tups := fun b xs z => (del_ne (ne_of_none z fresh)).trans (un.tups b xs ((upd_ne (ne_of_none z fresh)).trans z))
    frzs := fun b o v z => (del_ne (ne_of_none z fresh)).trans (un.frzs b o v ((upd_ne (ne_of_none z fresh)).trans z))
    tbls := fun b ps z => by
      rw [del_ne (ne_of_none z fresh)]
      exact un.tbls b ps ((upd_ne (ne_of_none z fresh)).trans z) }
  have okG : HOk X.prog X.w (del Hb x) G := fun b o z => by
    have bx : b ≠ x := fun e => by
      subst e
      rw [del_same] at z
      cases z
    rw [del_ne bx] at z
    have ownNe : ∀ {c : Addr}, Hb c = some (.own b) → c ≠ x := fun {c} h => at_ne at0 h exo_own
    refine (ok b o z).stay (fun c v h y => ?_) (fun c h => (del_ne (ownNe h)).trans h) fun c xs h => (del_ne (at_ne at0 h exo_tup)).trans h
    have cx : c ≠ x := by
      rcases h with h | h
      · rw [h]; exact bx
      · exact ownNe h
    exact (same cx).trans y
  refine ⟨t0, G, I.call' (ch := []) os U okG bare (fun b z => absurd z (by simp)), fun b o z => ?_, gone, stands, del_same⟩
  by_cases bx : b = x
  · subst bx
    rw [gone] at z
    cases z
  · exact (same bx).symm.trans z
theorem pmk_bare {x : Str} {C fI : Addr} {k : Nat} {fd : FuncData} {ps : List Str} {sp : Sp} {p pos : Pos} (T : OexC X.K C) (iC : PySem.W.findIn X.K (.ref C) "__init__" = some (some (.ref fI))) (tI : PySem.W.typeIn X.K (.ref fI) = some (.type "function"))
    (Fi : FnOk X.prog X.w X.K X.mg X.base (L2.CX X.prog X.w) k fI fd ps sp) (room : Room (k + 1) X.A) (bnd : Binds X.K fd ps []) (hg : Gl X x) (hm : X.mg x = some (.ref C)) (hdb : (x == ("__debug__" : Str)) = false := by decide) :
    PMk X (.Call (.Name x p) [] [] pos) (fun σ H1 Q => ∀ a, H1 a = none → sp [.ref a] (upd H1 a (exo a C none)) (fun v H2 => v = .non ∧ H2 a = some (exo a C none) ∧ Q (.ref C) none (del H2 a)) fun _ _ _ => False) := by
  intro pins s σ H Q I h
  obtain ⟨nm, q, N, bs, bm, sn, sub, ab, col, dd, k0, k1, k2, k3, k5, hC, hbm⟩ := T.cls
  refine wpAny_Call_Name_kw (ld_glob I hg hm ?_ hdb)
  refine PySem.W.callWith_K0 I.kIn T.kC ?_
  show wpAny _ _ (call (.ref C) []) _ _ _
  obtain ⟨hp, g, dr, tk, os⟩ := s
  have big : hp.objs.size ≤ hp.objs.size + 1 := Nat.le_succ _
  have fresh : H (hp.objs.size + 1) = none := I.hok.fresh big
  have asks := h (hp.objs.size + 1) fresh
  have grow : ∀ b o, hp.get? b = some o → ((hp.push (PySem.W.kdv_tup [])).push (PySem.HandSPX.excO C hp.objs.size)).get? b = some o := fun b o z => Heap.get?_push_of_some _ (Heap.get?_push_of_some _ z)
  have stands : ((hp.push (PySem.W.kdv_tup [])).push (PySem.HandSPX.excO C hp.objs.size)).get? (hp.objs.size + 1) = some (PySem.HandSPX.excO C hp.objs.size) := by heap_get
  have J : Inv X pins σ (upd H (hp.objs.size + 1) (exo (hp.objs.size + 1) C none)) ⟨(hp.push (PySem.W.kdv_tup [])).push (PySem.HandSPX.excO C hp.objs.size), g, dr, tk, os⟩ :=
    I.laid (t' := tk) (a := hp.objs.size + 1) (o := exo (hp.objs.size + 1) C none) (h' := (hp.push (PySem.W.kdv_tup [])).push (PySem.HandSPX.excO C hp.objs.size)) grow big (exo_ok stands)
  have vals : Vals [V.ref (hp.objs.size + 1)] [Value.ref (hp.objs.size + 1)] := .cons rfl .nil
  have len : ([Value.ref (hp.objs.size + 1)] ++ []).length = ps.length := (Fi.len _ _ _ _ asks)
  refine wpAny_call (PySem.HandSPX.call_own PySem.F.excBase_ValueError (fun Y => PySem.HandSPX.refsVE_contains Y bm hbm) (I.kIn _ _ hC) (PySem.W.looks_findIn I.kIn iC) (fun self => PySem.W.bind_fn I.kIn self tI) (by simp)
    (codeAny_mono (Fi.run _ X.stack _ _ ⟨[Value.ref (hp.objs.size + 1)], []⟩ [Value.ref (hp.objs.size + 1)] _ _ (fun _ _ _ => False) (room.make C [] []) (J.env0.make C [] []) (bnd _ [Value.ref (hp.objs.size + 1)] J.kIn len) vals asks) fun r s' back => ?_))
  cases r with
  | error er =>
    obtain ⟨_, _, _, _, _, _, _, _, _, _, _, _, z⟩ := back
    exact z.elim
  | ok fl =>
    cases fl with
    | ret u =>
      obtain ⟨v, H2, os2, bare2, un2, ok2, rv, ev, at0, told⟩ := back
      subst ev
      obtain ⟨h2, g2, d2, t2, os'⟩ := s'
      obtain ⟨t0, G, JG, sub2, gone, st0, na⟩ := bare_end (dz := d2) (tz := t2) I big grow un2 ok2 os2 bare2 at0
      exact ⟨rv, _, _, _, ⟨G, g2, d2, t2, os'⟩, _, .ref C, none, rfl, JG, sub2, gone, st0, ⟨rfl, rfl⟩, rfl, rfl, na, rfl, bare2, raises_own T.exC T.tyC, told⟩
    | next => exact back.elim
    | brk => exact back.elim
    | cont => exact back.elim
end
def spIni (K : PySem.W.Frag) : Sp := fun vs H Q _ => ∃ a C, vs = [.ref a] ∧ OexC K C ∧ H a = some (exo a C none) ∧ Q .non H
structure Bare (X : Cx) (k : Nat) (x : Str) (C : Addr) : Prop where
  mg : X.mg x = some (.ref C)
  ex : ∃ fI fd, OexC X.K C ∧ PySem.W.findIn X.K (.ref C) "__init__" = some (some (.ref fI)) ∧ PySem.W.typeIn X.K (.ref fI) = some (.type "function") ∧ FnOk X.prog X.w X.K X.mg X.base (L2.CX X.prog X.w) k fI fd ["self"] (spIni X.K) ∧ Binds X.K fd ["self"] []
theorem del_upd {H : Hp} {a : Addr} {o : HO} (h : H a = none) : del (upd H a o) a = H := by
  funext b
  rcases Classical.em (b = a) with z | z
  · subst z
    rw [del_same, h]
  · rw [del_ne z, upd_ne z]
theorem s_raise0 {X : Cx} {W : WX} {IO : List Nat} {k : Nat} {x : Str} {C : Addr} {p cpos pos : Pos} (B : Bare X k x C) (tk : L2.Takes X W) (hc : X.calm = true) (room : Room (k + 1) X.A) (hg : Gl X x) (hdb : (x == ("__debug__" : Str)) = false := by decide) :
    QS X W IO (.Raise (some (.Call (.Name x p) [] [] cpos)) none pos) (fun D env => D.ex ⟨C, [], []⟩ env) := by
  obtain ⟨hm, fI, fd, T, iC, tI, Fi, bnd⟩ := B
  refine ⟨PS_imp (ps_raise hc tk (pmk_bare T iC tI Fi room bnd hg hm hdb)) fun D σ H ⟨ow, env, De, s, hq, kk⟩ => ?_⟩
  intro a ha
  refine ⟨a, C, rfl, T, upd_same, rfl, upd_same, ?_⟩
  rw [del_upd ha]
  exact kk.ex _ none σ H ow env Fs.refl Ios.refl s ⟨rfl, rfl⟩ hq
def spIni1 (K : PySem.W.Frag) (f : Str) : Sp := fun vs H Q _ => ∃ a C y, vs = [.ref a, y] ∧ OexC K C ∧ H a = some (exo a C none) ∧ PySem.W.findIn K (.ref C) f = some none ∧ ∀ dx, H dx = none → dx ≠ a → Q .non (upd (upd H dx (exd dx [(f, y)])) a (exo a C (some dx)))
structure Bare1 (X : Cx) (k : Nat) (x : Str) (C : Addr) (f : Str) (ps : List Str) : Prop where
  mg : X.mg x = some (.ref C)
  no : PySem.W.findIn X.K (.ref C) f = some none
  ex : ∃ fI fd, OexC X.K C ∧ PySem.W.findIn X.K (.ref C) "__init__" = some (some (.ref fI)) ∧ PySem.W.typeIn X.K (.ref fI) = some (.type "function") ∧ FnOk X.prog X.w X.K X.mg X.base (L2.CX X.prog X.w) k fI fd ps (spIni1 X.K f) ∧ Binds X.K fd ps []
theorem del_two {H : Hp} {a d : Addr} {o1 o2 o3 o4 : HO} (h : H a = none) (ne : d ≠ a) : upd (del (upd (upd (upd H a o1) d o2) a o3) a) d o4 = upd H d o4 := by
  funext b
  rcases Classical.em (b = d) with z | z
  · subst z
    rw [upd_same, upd_same]
  · rw [upd_ne z, upd_ne z]
    rcases Classical.em (b = a) with y | y
    · subst y
      rw [del_same, h]
    · rw [del_ne y, upd_ne y, upd_ne z, upd_ne y]
theorem s_raise1 {X : Cx} {W : WX} {IO M : List Nat} {k : Nat} {x f : Str} {ps : List Str} {C : Addr} {e : Expr} {q : SemE} {p cpos pos : Pos} (B : Bare1 X k x C f ps) (tk : L2.Takes X W) (hc : X.calm = true) (room : Room (k + 1) X.A) (hg : Gl X x) (he : QE X W M e q)
    (hx : Passes (L2.CX X.prog X.w) X (fun _ _ _ => False)) (hdb : (x == ("__debug__" : Str)) = false := by decide) (hs : starEach [e] X.env = (false, eval e X.env) :: starEach [] X.env := by rfl) (hpl : (backTo cpos (starEach [] X.env)).any (·.1) = false := by rfl) :
    QS X W IO (.Raise (some (.Call (.Name x p) [e] [] cpos)) none pos) (fun D env => q env (fun t env1 => match t with
      | .fz d => D.ex ⟨C, [f], [d]⟩ env1
      | _ => False) D.ex) := by
  obtain ⟨hm, no, fI, fd, T, iC, tI, Fi, bnd⟩ := B
  refine ⟨PS_imp (ps_raise hc tk (pmk_oex T iC tI Fi room bnd .nil hx hg hm (a_cons he a_nil hs).run hdb hs hpl)) fun D σ H ⟨ow, env, De, s, hq, kk⟩ => ?_⟩
  refine tA_data (m := 0) (Q := fun ds env1 => match ds with | [d] => De.ex ⟨C, [f], [d]⟩ env1 | _ => False) rfl s (E := De.ex) ?_ kk.ex.xk ?_
  · unfold aCons
    refine cast (congrArg (fun z => q env z De.ex) ?_) hq
    funext t env1
    cases t <;> rfl
  · intro vs ds H1 ow1 env1 y s1 o l1 r z
    split at z
    · rename_i d
      match vs, l1 with
      | [v], _ =>
        refine ⟨show 1 ≤ 1000 by decide, fun a ha => ⟨a, C, v, rfl, T, upd_same, no, fun dx hdx ne => ?_⟩⟩
        have hn : H1 dx = none := (upd_ne ne).symm.trans hdx
        refine ⟨rfl, dx, [(f, v)], upd_same, ?_, hn, ?_⟩
        · rw [upd_ne ne, upd_same]
        · rw [del_two ha ne]
          have yn : Stp [] 0 H1 ow1 (upd H1 dx (.xd [(f, v)])) (Ow.put ow1 dx .base) := Stp.new hn
          exact kk.ex ⟨C, [f], [d]⟩ (some dx) σ _ _ env1 (y.fs.trans yn.fs) Ios.refl (s1.stp0 yn) ⟨[v], by rw [bs_of put_same]; exact upd_same, rfl, r.mono yn.bs⟩ z
    · exact z.elim
theorem passes0 {X : Cx} : Passes (L2.CX X.prog X.w) X (fun _ _ _ => False) := fun _ _ _ _ _ _ _ h => by
  obtain ⟨_, _, _, _, _, _, _, _, _, _, _, _, z⟩ := h
  exact z.elim
end QV

set_option Elab.async false
set_option linter.all false
set_option maxRecDepth 100000
set_option maxHeartbeats 2000000
namespace PySem.W
open PySem PySem.Spec PySem.Calls PyProof.Rows
section
variable {prog : Program} {w : World} {A : Around} {E : Value → Shared → Prop} {s : Shared} {K : Frag} {x D : Addr} {ox : Obj} {od : Option Obj}
theorem qv_findData {C : Addr} {name : Str} {a g : Value} (hc : (clsIn K C).isSome = true) (ha : findIn K (.ref C) name = some (some a)) (hg : specialIn K a "__get__" = some (some g)) (ht : takesIn K a = some true) : findObj K C od name = some (.bind g a) := by
  obtain ⟨cd, hc⟩ := Option.isSome_iff_exists.mp hc
  unfold findObj
  rw [hc, Option.bind_some, ha, Option.bind_some]
  simp [hg, ht]
theorem qv_class {Q : Option Value → Shared → Prop} (hga : findIn K (.ref D) "__getattribute__" = some (some (.builtin "BaseException.__getattribute__"))) (hgt : findIn K (.ref D) "__getattr__" = some none) (hsub : subIn K (.ref D) (.type "BaseException") = some true)
    (hdct : hasDictIn K D = true) (ha : findIn K (.ref D) "__class__" = some (some (.builtin "object.__class__")))
    (hn : specialIn K (.builtin "object.__class__") "__get__" = some (some (.builtin "getset_descriptor.__get__"))) (htk : takesIn K (.builtin "object.__class__") = some true) (hm : mroIn K D (.type "object") = some true)
    (X : K.In s.heap) (I : InstAt s.heap x ox D od) (h : Q (some (.ref D)) { s with toks := s.toks + 1 }) : wpAny (model prog w) A (getAttr? (.ref x) "__class__") Q E s := by
  have hf : findObj K D od "__class__" = some (.bind (.builtin "getset_descriptor.__get__") (.builtin "object.__class__")) := qv_findData (by obtain ⟨cd, hc, _⟩ := any_some hdct; rw [hc]; rfl) ha hn htk
  obtain ⟨hp, g, d, t, os⟩ := s
  have L0 := I.type (M := model prog w)
  have L1 := looks_findIn (M := model prog w) X hga
  have L2 := looks_findIn (M := model prog w) X hgt
  have L3 := looks_find (M := model prog w) X I hf
  have sub : Looks (model prog w) hp (isInstance (.ref x) (.type "BaseException")) true := L0.andThen (looks_subIn X hsub)
  have hx0 : (false && onTheHeap (Value.builtin "BaseException.__getattribute__")) = false := rfl
  have hx2 : (Value.builtin "BaseException.__getattribute__" == Value.builtin "object.__getattribute__") = false := by decide +kernel
  have hx1 : (onTheHeap (Value.ref D) && Value.builtin "BaseException.__getattribute__" == Value.builtin "object.__getattribute__") = false := by rw [hx2]; rfl
  unfold getAttr? getAttrBy? getAttrBy
  refine wpAny_bind (wpAny_mkText (wpAny_bind (wpAny_attempt (wpAny_holding (wpAny_bind (L0.at (wpAny_bind (L1.at ?_))))))))
  show wpAny _ _ (if (onTheHeap (Value.ref D) && Value.builtin "BaseException.__getattribute__" == Value.builtin "object.__getattribute__") = true then _ else _) _ _ _
  rw [hx1, if_neg Bool.false_ne_true]
  unfold getAttrByItsOwn hookBefore
  refine wpAny_bind ?_
  rw [if_pos (show onTheHeap (Value.ref D) = true from rfl)]
  refine L2.at ?_
  refine wpAny_bind (wpAny_attempt (wpAny_holding ?_))
  unfold callGetattribute
  rw [hx0, if_neg Bool.false_ne_true]
  unfold boundAndCalled
  rw [PySem.F.excAttr_ValueError.ga.bind (.ref x)]
  refine wpAny_bind (wpAny_pure ?_)
  show wpAny _ _ (call (.builtin "BaseException.__getattribute__") [.ref x, .str "__class__" t]) _ _ _
  refine wpAny_call (codeAny_call_builtin PySem.F.excAttr_ValueError.ga.plain PySem.F.entry_bexc_ga ?_)
  refine @check_slot (model prog w) _ _ ⟨hp, g, d, t + 1, os⟩ "BaseException.__getattribute__" "BaseException" "__getattribute__" (.ref x) [.str "__class__" t] [] _ (by decide +kernel) (by decide +kernel) sub (PySem.F.args_bexc_ga (.ref x) (.str "__class__" t)) ?_
  unfold Builtin.«object.__getattribute__»
  refine wpAny_bind (wpAny_of_eq (a := ((Value.ref x : Value), [Value.str "__class__" t])) (by first | rfl | (simp only [slotArgs]; rfl)) ?_)
  refine wpAny_bind (wpAny_pure (wpAny_bind (L0.at (wpAny_bind (L3.at ?_)))))
  show wpAny _ _ (holding [Value.builtin "object.__class__"] (call (.builtin "getset_descriptor.__get__") [.builtin "object.__class__", .ref x, .ref D]) >>= ret) _ _ _
  refine wpAny_bind (wpAny_holding (wpAny_call (class_get (s := ⟨hp, g, d, t + 1, os⟩) (ox := ox) (od := od) X I hm ?_)))
  refine wpAny_pure ?_
  show wpAny _ _ (handedOut (.ref D)) _ _ _
  rw [handedOut_of (v := .ref D) rfl]
  first
    | exact wpAny_pure (wpAny_pure h)
    | exact wpAny_pure h
    | exact wpAny_pure (wpAny_bind (wpAny_pure (wpAny_pure h)))
theorem qv_kitx (hga : findIn K (.ref D) "__getattribute__" = some (some (.builtin "BaseException.__getattribute__"))) (hgt : findIn K (.ref D) "__getattr__" = some none) (hsub : subIn K (.ref D) (.type "BaseException") = some true) (hdct : hasDictIn K D = true) (ha : findIn K (.ref D) "__class__" = some (some (.builtin "object.__class__")))
    (hn : specialIn K (.builtin "object.__class__") "__get__" = some (some (.builtin "getset_descriptor.__get__"))) (htk : takesIn K (.builtin "object.__class__") = some true) (hm : mroIn K D (.type "object") = some true) :
    KitX K (.ref x) (.ref D) (fun h => InstAt h x ox D od) where
  ty := fun _ _ _ I => I.type
  it := fun _ _ X _ => by
    obtain ⟨cdD, hcD, _⟩ := any_some hdct
    unfold clsIn at hcD
    split at hcD
    · rename_i c' d' cd' sl' ho
      intro A' Q' E' s' k q
      unfold isType loadHead
      exact wpAny_bind (wpAny_loadPart (k _ _ (X _ _ ho)) (wpAny_pure q))
    · cases hcD
  ne := fun h tp dd its n sl X htp => by
    obtain ⟨cdD, hcD, _⟩ := any_some hdct
    refine Bool.eq_false_iff.mpr fun q => ?_
    have e : D = tp := Value.ref.inj (beq_iff_eq.mp q)
    subst e
    unfold clsIn at hcD
    split at hcD
    · rename_i c' d' cd' sl' ho
      have z := (X _ _ ho).symm.trans htp
      cases z
    · cases hcD
  ca := fun X I k => qv_class hga hgt hsub hdct ha hn htk hm X I k
end
end PySem.W
namespace QV
open PySem PySem.Spec PyProof.Rows L2

structure Xt (K : PySem.W.Frag) (mg : Str → Option Value) (ca : Str → Addr) (ns ts cs fs : List Str) (isa : Str → Str → Bool) : Prop where
  mg : ∀ x, x ∈ ts ∨ x ∈ cs → mg x = some (.ref (ca x))
  exc : ∀ x, x ∈ ns → ExcC K (ca x)
  kit : ∀ x, x ∈ ns → ∀ y, y ∈ ts → PySem.W.kitOne K (.ref (ca x)) (.ref (ca y)) = some (isa x y)
  kitV : ∀ x, x ∈ ns → PySem.W.kitOne K (.ref (ca x)) (.type "ValueError") = some true
  exm : ∀ x, x ∈ ns → ∀ y, y ∈ cs → PySem.W.exmOne K (.ref (ca x)) (.ref (ca y)) = some (isa x y)
  no : ∀ x, x ∈ ns → ∀ f, f ∈ fs → PySem.W.findIn K (.ref (ca x)) f = some none
def Pn (X : Cx) (a C : Addr) (d : Option Addr) : Prop := ∃ oe : Obj, (a, oe) ∈ X.pn ∧ Zc (.ref C) d oe ∧ ∃ vs, oe.data = .fields vs
def excP (a C : Addr) (d : Option Addr) (t : T) (k : List Str → List D → Prop) : Prop := match t with
  | .fz (.exc a' C' d' ks ds) => a' = a ∧ C' = C ∧ d' = d ∧ k ks ds
  | _ => False
theorem inst_at {X : Cx} {a C : Addr} {d : Option Addr} {oe : Obj} {pins : List (Addr × Obj)} {σ : L2.St} {H : Hp} {s : Shared} (I : Inv X pins σ H s) (hp : (a, oe) ∈ X.pn) (hz : Zc (.ref C) d oe) (hf : ∃ vs, oe.data = .fields vs) (hd : ∀ dd, d = some dd → ∃ fs, H dd = some (.xd fs)) :
    ∃ od, PySem.W.InstAt s.heap a oe C od := by
  obtain ⟨hget, _⟩ := I.pin (a, oe) (List.mem_append.mpr (.inl hp))
  obtain ⟨vs, hv⟩ := hf
  cases d with
  | none =>
    refine ⟨none, hget, hz.1, ?_, ?_⟩
    · unfold PySem.W.notCls; rw [hv] <;> rfl
    · rw [hz.2] <;> trivial
  | some dd =>
    obtain ⟨fs, ea⟩ := hd dd rfl
    obtain ⟨mA, ⟨od, es, ep, ho, _⟩, _⟩ := (show ObjOk X.prog X.w H s.heap dd (.xd fs) from I.hok dd _ ea)
    refine ⟨some od, hget, hz.1, ?_, ?_⟩
    · unfold PySem.W.notCls; rw [hv] <;> rfl
    · rw [hz.2]; exact ho
def rIsP (K : PySem.W.Frag) (a C : Addr) (d : Option Addr) : List V → Hp → VK → Prop := fun xs H Q => ∃ (c : V) (cv : Value) (b : Bool), xs = [.ref a, c] ∧ (∀ u, RelV c u → u = cv) ∧ PySem.W.kitOne K (.ref C) cv = some b ∧ ExcC K C ∧ (∀ dd, d = some dd → ∃ fs, H dd = some (.xd fs)) ∧ Q (.bl b) H
theorem call_isP {X : Cx} {a C : Addr} {d : Option Addr} (P : Pn X a C d) : CallR X (.builtin "isinstance") (rIsP X.K a C d) := by
  intro pins s σ H xs us Q I r h
  obtain ⟨oe, hp, hz, hf⟩ := P
  obtain ⟨c, cv, b, rfl, hcv, e, G, hd, q⟩ := h
  cases r with
  | cons rx rr =>
    cases rr with
    | cons rt rr =>
      cases rr
      cases rx
      have ec := hcv _ rt
      subst ec
      obtain ⟨od, J⟩ := inst_at I hp hz hf hd
      exact PySem.W.kia_one (PySem.W.qv_kitx G.hg G.hk G.hs G.hd G.ha G.hn G.ht G.hm) I.kIn J e (fun z => nomatch z) fun tk => ⟨.bl b, H, I.kept (t' := tk) fun _ _ z => z, rfl, q⟩
def rIsPT (K : PySem.W.Frag) (a C : Addr) (d : Option Addr) : List V → Hp → VK → Prop := fun xs H Q => ∃ (tp : Addr) (cs : List Addr) (b : Bool), xs = [.ref a, .ref tp] ∧ H tp = some (.tup (cs.map .ref)) ∧ PySem.W.kitAny K (.ref C) (cs.map .ref) = some b ∧ ExcC K C ∧ (∀ dd, d = some dd → ∃ fs, H dd = some (.xd fs)) ∧ Q (.bl b) H
theorem vals_refs : ∀ {cs : List Addr} {us : List Value}, Vals (cs.map V.ref) us → us = cs.map Value.ref
  | [], _, .nil => rfl
  | _ :: _, _, .cons r t => by cases (show _ = Value.ref _ from r); rw [vals_refs t]; rfl
theorem call_isPT {X : Cx} {a C : Addr} {d : Option Addr} (P : Pn X a C d) : CallR X (.builtin "isinstance") (rIsPT X.K a C d) := by
  intro pins s σ H xs us Q I r h
  obtain ⟨oe, hp, hz, hf⟩ := P
  obtain ⟨tp, cs, b, rfl, hT, e, G, hd, q⟩ := h
  cases r with
  | cons rx rr =>
    cases rr with
    | cons rt rr =>
      cases rr
      cases rx
      cases (show _ = Value.ref tp from rt)
      obtain ⟨od, J⟩ := inst_at I hp hz hf hd
      obtain ⟨_, its, rv, o, h1, h2, n, h3⟩ := (show ObjOk X.prog X.w H s.heap tp (.tup (cs.map .ref)) from I.hok tp _ hT)
      have e3 := vals_refs rv
      subst e3
      obtain ⟨oc, od', dt, sl⟩ := o
      simp only at h2 h3
      subst h2 h3
      exact PySem.W.kia_tup (PySem.W.qv_kitx G.hg G.hk G.hs G.hd G.ha G.hn G.ht G.hm) I.kIn J h1 e (fun z => nomatch z) fun tk => ⟨.bl b, H, I.kept (t' := tk) fun _ _ z => z, rfl, q⟩
section
variable {X : Cx} {W : WX} {M : List Nat} {a C : Addr} {d : Option Addr} {e ec : Expr} {root : Option Nat} {pa : SemP} {p pos cp : Pos} {ca : Str → Addr} {ns ts cs fs : List Str} {isa : Str → Str → Bool} {y f : Str}
theorem exc_rd {K : PySem.W.Frag} {H : Hp} {ow : Ow} {v : V} {a C : Addr} {d : Option Addr} {ks : List Str} {ds : List D} (r : Ro K H ow v (.fz (.exc a C d ks ds))) : v = .ref a ∧ (∀ dd, d = some dd → ∃ vs, H dd = some (.xd (ks.zip vs)) ∧ ks.length = vs.length ∧ Rps K (Bs H ow) vs ds) := by
  obtain ⟨l, r⟩ := r
  have r := Tq.fz_.mp r
  cases r with
  | exc0 => exact ⟨rfl, fun dd z => nomatch z⟩
  | exc1 h1 h2 h3 => exact ⟨rfl, fun dd z => by cases z; exact ⟨_, bs_same _ _ _ _ h1, h2, h3⟩⟩
theorem isP_run {r : List V → Hp → VK → Prop} {te : TE} {b : Str → Bool} {σ : L2.St} {H : Hp} {Qv : VK}
    (hq : tQ X.K W M (s1 pa fun t Q => excP a C d t fun _ _ => ∃ x, C = ca x ∧ x ∈ ns ∧ Q (.fz (.bl (b x)))) σ H Qv)
    (hr : ∀ H x, x ∈ ns → C = ca x → (∀ dd, d = some dd → ∃ fs, H dd = some (.xd fs)) → ∀ Qv : VK, (∀ H', (∀ a o, H a = some o → H' a = some o) → (∀ a, H' a ≠ H a → H a = none) → Qv (.bl (b x)) H') → te σ H fun c H2 => r [.ref a, c] H2 Qv) :
    tP X.K W M root pa σ H fun v H1 => te σ H1 fun c H2 => r [v, c] H2 Qv := by
  obtain ⟨n, ow, env, Q, E, s, hq, k, x⟩ := hq
  refine ⟨n, ow, env, _, E, s, hq, fun v t pt H' ow' env' y1 s' o rr z => ?_, x⟩
  dsimp only [excP] at z
  split at z
  · rename_i a' C' d' ks ds
    obtain ⟨rfl, rfl, rfl, nm, ec, hn, z⟩ := z
    obtain ⟨rfl, hd⟩ := exc_rd (rr.ro s')
    refine hr H' nm hn ec (fun dd e => let ⟨vs, h, _⟩ := hd dd e; ⟨_, h⟩) Qv fun H2 h1 h2 => ?_
    have y2 : Stp [] n H' ow' H2 ow' := fun b o e _ => ⟨h1 b o e, rfl⟩
    exact k (.bl (b nm)) (.fz (.bl (b nm))) H2 ow' env' (y1.trans y2 (fun _ h => h) nilsub (Nat.le_refl _) (Nat.le_refl _)) (s'.stp0 y2) o (Tq.fz_.mpr (.bl _)) z
  · exact z.elim
theorem q_isP (T : Xt X.K X.mg ca ns ts cs fs isa) (P : Pn X a C d) (hy : y ∈ ts) (hg : Gl X "isinstance") (hm : X.mg "isinstance" = none) (hgy : Gl X y) (ha : QP X W M root e pa) (hdy : (y == ("__debug__" : Str)) = false := by decide)
    (he : starEach [e, .Name y cp] X.env = (false, eval e X.env) :: starEach [.Name y cp] X.env := by rfl) (he2 : starEach [.Name y cp] X.env = (false, eval (.Name y cp) X.env) :: starEach [] X.env := by rfl) (hpl : (backTo pos (starEach [.Name y cp] X.env)).any (·.1) = false := by rfl) :
    QE X W M (.Call (.Name "isinstance" p) [e, .Name y cp] [] pos) (s1 pa fun t Q => excP a C d t fun _ _ => ∃ x, C = ca x ∧ x ∈ ns ∧ Q (.fz (.bl (isa x y)))) :=
  ⟨PE_imp (pe_callB (call_isP P) hg hm bt_isinstance (pa_cons ha.run (pa_cons (pe_glob (v := .ref (ca y)) hgy (T.mg y (.inl hy)) rfl hdy) pa_nil he2) he) (by decide) (by decide) he hpl) fun σ H Qv hq =>
    isP_run (te := tC (.ref (ca y))) (r := rIsP X.K a C d) (b := fun x => isa x y) hq fun H x hx ec hd Qv hk => ⟨.ref (ca y), .ref (ca y), isa x y, rfl, fun u h => h, by rw [ec]; exact T.kit x hx y hy, by rw [ec]; exact T.exc x hx, hd, hk H (fun _ _ h => h) fun _ h => (h rfl).elim⟩⟩
theorem q_isV (T : Xt X.K X.mg ca ns ts cs fs isa) (P : Pn X a C d) (hg : Gl X "isinstance") (hm : X.mg "isinstance" = none) (hgy : Gl X "ValueError") (hmy : X.mg "ValueError" = none) (ha : QP X W M root e pa)
    (he : starEach [e, .Name "ValueError" cp] X.env = (false, eval e X.env) :: starEach [.Name "ValueError" cp] X.env := by rfl) (he2 : starEach [.Name "ValueError" cp] X.env = (false, eval (.Name "ValueError" cp) X.env) :: starEach [] X.env := by rfl) (hpl : (backTo pos (starEach [.Name "ValueError" cp] X.env)).any (·.1) = false := by rfl) :
    QE X W M (.Call (.Name "isinstance" p) [e, .Name "ValueError" cp] [] pos) (s1 pa fun t Q => excP a C d t fun _ _ => ∃ x, C = ca x ∧ x ∈ ns ∧ Q (.fz (.bl true))) :=
  ⟨PE_imp (pe_callB (call_isP P) hg hm bt_isinstance (pa_cons ha.run (pa_cons (pe_bltn (v := .ty "ValueError") hgy hmy (by decide +kernel) rfl) pa_nil he2) he) (by decide) (by decide) he hpl) fun σ H Qv hq =>
    isP_run (te := tC (.ty "ValueError")) (r := rIsP X.K a C d) (b := fun _ => true) hq fun H x hx ec hd Qv hk => ⟨.ty "ValueError", .type "ValueError", true, rfl, fun u h => h, by rw [ec]; exact T.kitV x hx, by rw [ec]; exact T.exc x hx, hd, hk H (fun _ _ h => h) fun _ h => (h rfl).elim⟩⟩
inductive Cnames (X : Cx) (ts : List Str) : List Expr → List Str → Prop
  | nil : Cnames X ts [] []
  | cons {y : Str} {es : List Expr} {ys : List Str} (cp : Pos) : y ∈ ts → Gl X y → (y == ("__debug__" : Str)) = false → starEach (.Name y cp :: es) X.env = (false, eval (.Name y cp) X.env) :: starEach es X.env → Cnames X ts es ys → Cnames X ts (.Name y cp :: es) (y :: ys)
theorem cn_pa (T : Xt X.K X.mg ca ns ts cs fs isa) : ∀ {es : List Expr} {ys : List Str}, Cnames X ts es ys → PA X es fun _ H Q => Q (ys.map fun y => V.ref (ca y)) H
  | _, _, .nil => pa_nil
  | _, _, .cons cp hy hg hd hs t => ⟨fun pos pins s σ H Q I h => (pa_cons (pe_glob (v := .ref (ca _)) hg (T.mg _ (.inl hy)) rfl hd) (cn_pa T t) hs).run pos pins s σ H Q I h⟩
theorem cn_sub : ∀ {es : List Expr} {ys : List Str}, Cnames X ts es ys → ∀ y, y ∈ ys → y ∈ ts
  | _, _, .nil, _, h => nomatch h
  | _, _, .cons _ hy _ _ _ t, z, h => by
    rcases List.mem_cons.mp h with rfl | h
    · exact hy
    · exact cn_sub t z h
theorem kit_any (T : Xt X.K X.mg ca ns ts cs fs isa) {x : Str} (hx : x ∈ ns) : ∀ {ys : List Str}, (∀ y, y ∈ ys → y ∈ ts) → PySem.W.kitAny X.K (.ref (ca x)) ((ys.map ca).map .ref) = some (ys.any (isa x))
  | [], _ => rfl
  | y :: ys, h => by
    have h1 := T.kit x hx y (h y List.mem_cons_self)
    have h2 := kit_any T hx (ys := ys) fun z hz => h z (List.mem_cons_of_mem _ hz)
    simp only [List.map_cons, PySem.W.kitAny, h1, List.any_cons]
    cases isa x y
    · simpa using h2
    · rfl
theorem q_isPT {es : List Expr} {ys : List Str} {kk : Nat} {tp : Pos} (T : Xt X.K X.mg ca ns ts cs fs isa) (P : Pn X a C d) (hc : Cnames X ts es ys) (hg : Gl X "isinstance") (hm : X.mg "isinstance" = none) (ha : QP X W M root e pa) (hz : ys.length ≤ 100 := by decide)
    (he : starEach [e, .Tuple es kk tp] X.env = (false, eval e X.env) :: starEach [.Tuple es kk tp] X.env := by rfl) (he2 : starEach [.Tuple es kk tp] X.env = (false, eval (.Tuple es kk tp) X.env) :: starEach [] X.env := by rfl) (hpl : (backTo pos (starEach [.Tuple es kk tp] X.env)).any (·.1) = false := by rfl) :
    QE X W M (.Call (.Name "isinstance" p) [e, .Tuple es kk tp] [] pos) (s1 pa fun t Q => excP a C d t fun _ _ => ∃ x, C = ca x ∧ x ∈ ns ∧ Q (.fz (.bl (ys.any (isa x))))) :=
  ⟨PE_imp (pe_callB (call_isPT P) hg hm bt_isinstance (pa_cons ha.run (pa_cons (pe_tup (cn_pa T hc)) pa_nil he2) he) (by decide) (by decide) he hpl) fun σ H Qv hq =>
    isP_run (te := tTup fun _ H Q => Q (ys.map fun y => V.ref (ca y)) H) (r := rIsPT X.K a C d) (b := fun x => ys.any (isa x)) hq fun H x hx ec hd Qv hk => by
      refine ⟨by rw [List.length_map]; exact Nat.le_trans hz (by decide), fun q hq2 => ⟨q, ys.map ca, ys.any (isa x), rfl, by rw [upd_same, List.map_map]; rfl, by rw [ec]; exact kit_any T hx (cn_sub hc), by rw [ec]; exact T.exc x hx, fun dd e => ?_, hk _ (fun b o e => ?_) fun b hb => ?_⟩⟩
      · obtain ⟨fs', h⟩ := hd dd e
        exact ⟨fs', by rw [upd_ne (ne_of_none h hq2)]; exact h⟩
      · rw [upd_ne (ne_of_none e hq2)]; exact e
      · by_cases z : b = q
        · rw [z]; exact hq2
        · rw [upd_ne z] at hb; exact (hb rfl).elim⟩
theorem zip_look {K : PySem.W.Frag} {B : Hp} {f : Str} {u : D} : ∀ {ks : List Str} {vs : List V} {ds : List D}, ks.length = vs.length → Rps K B vs ds → (ks.zip ds).lookup f = some u → ∃ v, (ks.zip vs).lookup f = some v ∧ Rp K B v u
  | [], _, _, _, _, h => by simp at h
  | _ :: _, _, _, l, .nil, h => by simp at l
  | k :: ks, v :: vs, d :: ds, l, .cons r s, h => by
    rw [List.zip_cons_cons, List.lookup_cons] at h ⊢
    split at h
    · cases h; exact ⟨v, rfl, r⟩
    · exact zip_look (by simpa using l) s h
def tXg (K : PySem.W.Frag) (a : Addr) (d : Option Addr) (C : Addr) (f : Str) (te : TE) : TE := fun σ H Q => te σ H fun x H1 => x = .ref a ∧ ExcC K C ∧ PySem.W.findIn K (.ref C) f = some none ∧ ∃ (dd : Addr) (fs : List (Str × V)) (v : V), d = some dd ∧ H1 dd = some (.xd fs) ∧ fs.lookup f = some v ∧ Q v H1
theorem pe_xg {te : TE} (P : Pn X a C d) (he : PE X e te) (hb : attributeBase e f X.env (eval e X.env) = eval e X.env := by rfl) : PE X (.Attribute e f pos) (tXg X.K a d C f te) := by
  refine ⟨fun pins s σ H Q I h => ?_⟩
  refine attr_of hb (thn (he.run pins s σ H _ I h) fun u s1 hh => ?_)
  obtain ⟨oe, hp, hz, hf⟩ := P
  obtain ⟨x, H1, I1, rx, ex, G, hno, dd, fs, v, ed, ea, l, q⟩ := hh
  subst ex
  obtain rfl : u = Value.ref a := rx
  subst ed
  obtain ⟨ha, _⟩ := I1.pin (a, oe) (List.mem_append_left _ hp)
  obtain ⟨vs, hd⟩ := hf
  have hx : ObjOk X.prog X.w H1 s1.heap dd (.xd fs) := I1.hok dd _ ea
  obtain ⟨mA, hns, hr⟩ := hx
  obtain ⟨od, ho, hl⟩ := lookIn_ns hns
  obtain ⟨u, hu, ru⟩ := RelO.some_of (v := v) (o := mA f) (by rw [← l]; exact hr f)
  have J : PySem.W.InstAt s1.heap a oe C (some od) := ⟨ha, hz.1, by unfold PySem.W.notCls; rw [hd] <;> rfl, by rw [hz.2]; exact ho⟩
  exact HandSPX.exc_get I1.kIn J G.hg G.hk G.hs (PySem.W.findObj_own G.hd hno rfl (by rw [hl, hu])) (handed_of ru) ⟨v, H1, I1.tok _, ru, q⟩
theorem q_xf (T : Xt X.K X.mg ca ns ts cs fs isa) (P : Pn X a C d) (hfs : f ∈ fs) (ha : QP X W M root e pa) (hb : attributeBase e f X.env (eval e X.env) = eval e X.env := by rfl) :
    QE X W M (.Attribute e f pos) (s1 pa fun t Q => excP a C d t fun ks ds => ∃ x, C = ca x ∧ x ∈ ns ∧ ∃ u, (ks.zip ds).lookup f = some u ∧ d.isSome = true ∧ Q (.fz u)) :=
  ⟨PE_imp (pe_xg P ha.run hb) fun σ H Qv ⟨n, ow, env, Q, E, s, hq, k, x⟩ => ⟨n, ow, env, _, E, s, hq, fun v t pt H' ow' env' y1 s' o rr z => by
    dsimp only [excP] at z
    split at z
    · rename_i a' C' d' ks ds
      obtain ⟨rfl, rfl, rfl, nm, ec, hn, u, hu, hs, z⟩ := z
      obtain ⟨rfl, hd⟩ := exc_rd (rr.ro s')
      obtain ⟨dd, rfl⟩ := Option.isSome_iff_exists.mp hs
      obtain ⟨vs, h1, h2, h3⟩ := hd dd rfl
      obtain ⟨w, hw, rw'⟩ := zip_look h2 h3 hu
      exact ⟨rfl, by rw [ec]; exact T.exc nm hn, by rw [ec]; exact T.no nm hn f hfs, dd, _, w, rfl, h1, hw, k w (.fz u) H' ow' env' y1 s' o (Tq.fz_.mpr rw') z⟩
    · exact z.elim, x⟩⟩
end
def sTryAs (i : Nat) (ca : Str → Addr) (ns : List Str) (hit : Str → Bool) (sb : SemS) (ss : Addr → Addr → Option Addr → SemS) : SemS := fun D env => sb { D with ex := fun r env1 => ∃ x, r.C = ca x ∧ x ∈ ns ∧ (hit x = true → ∀ a d, (d.isSome = true ∨ (r.ks = [] ∧ r.ds = [])) → ss a r.C d { D with nx := fun e => D.nx (e.set i none), bk := fun e => D.bk (e.set i none), ct := fun e => D.ct (e.set i none) } (env1.set i (some (.fz (.exc a r.C d r.ks r.ds))))) ∧ (hit x = false → D.ex r env1) } env
theorem s_tryAs {X : Cx} {W : WX} {IO : List Nat} (i : Nat) {y n : Str} {body suite : List Stmt} {b0 : Stmt} {np pos pos' : Pos} {sb : SemS} {ss : Addr → Addr → Option Addr → SemS} {ca : Str → Addr} {ns ts cs fs : List Str} {isa : Str → Str → Bool}
    (T : Xt X.K X.mg ca ns ts cs fs isa) (hy : y ∈ cs) (hgy : Gl X y) (tk : L2.Takes X W) (hN : X.N.Nodup) (hb : ∀ (W1 : WX) (pn : List (Addr × Obj)) (xe : Value → Shared → Prop), L2.Takes (X.tr pn xe) W1 → PassesOwn (model X.prog X.w) X.A X.env xe → QSs (X.tr pn xe) W1 IO body sb)
    (hsu : ∀ (a C : Addr) (d : Option Addr) (pn : List (Addr × Obj)), Pn (X.suite a pn) a C d → QSs (X.suite a pn) W IO (b0 :: suite) (ss a C d))
    (hs : X.stack = X.env :: X.outer := by rfl) (hf : X.env.frame = some X.env.locals := by rfl) (hi : X.N[i]? = some n := by rfl) (hln : X.env.kindOf n = some .local := by rfl) (hdy : (y == ("__debug__" : Str)) = false := by decide) (hio : i ∉ IO := by decide) :
    QS X W IO (.Try body [.ExceptHandler (some (.Name y np)) (some n) (b0 :: suite) pos'] [] [] pos) (sTryAs i ca ns (fun x => isa x y) sb ss) := by
  refine ⟨PS_imp (ps_try_as (c := .ref (ca y)) (tb := fun W1 => tS X.K W1 IO sb) (ts := fun a cls d D σ H => ∃ C : Addr, cls = .ref C ∧ tS X.K W IO (ss a C d) D σ H) (Wout := W) hs hf hN hi hln ⟨hgy, hdy, .inl (T.mg y (.inr hy))⟩ tk (fun W1 pn xe t p => (hb W1 pn xe t p).run)
    (fun a oe cls d pn hz hv => ⟨fun pins s σ H D I ⟨C, ec, q⟩ => by subst ec; exact (hsu a C d ((a, oe) :: pn) ⟨oe, List.mem_cons_self, hz, hv⟩).run.run pins s σ H D I q⟩)) fun D σ H ⟨ow, env, De, s, hq, k⟩ => ?_⟩
  refine ⟨ow, env, _, s, hq, ⟨k.nx, k.rt, k.bk, k.ct, fun r d σ1 H1 ow1 env1 fs io st rz z => ?_⟩⟩
  obtain ⟨x, hx, hn, z1, z2⟩ := z
  have rp : ∀ a, Rp X.K (Bs H1 ow1) (.ref a) (.exc a r.C d r.ks r.ds) := fun a => by
    obtain ⟨rC, rks, rds⟩ := r
    cases d with
    | none => obtain ⟨h1, h2⟩ := rz; subst h1 h2; exact .exc0 _ _
    | some dd => obtain ⟨vs, h1, h2, h3⟩ := rz; exact .exc1 h1 h2 h3
  have dz : d.isSome = true ∨ (r.ks = [] ∧ r.ds = []) := by
    cases d with
    | none => exact .inr rz
    | some _ => exact .inl rfl
  refine ⟨isa x y, by rw [hx]; exact T.exm x hn y hy, fun e a ha => ⟨r.C, rfl, ow1, env1.set i (some (.fz (.exc a r.C d r.ks r.ds))), _, st.set (Tq.fz_.mpr (rp a)), z1 e a d dz, ?_⟩, fun e => k.ex r d σ1 H1 ow1 env1 fs io st rz (z2 e)⟩
  have io1 : Ios IO σ (σ1.set i (some (.ref a))) := io.trans (ios_set hio)
  have un : ∀ {σ2 : L2.St} {H2 : Hp} {ow2 : Ow} {env2 : QV.Env}, StOk X.K H2 ow2 σ2 env2 → StOk X.K H2 ow2 (σ2.set i none) (env2.set i none) := fun {σ2 H2 ow2 env2} s2 => ⟨by simp [s2.len], fun j t ej => by
    by_cases hj : i = j
    · subst hj
      by_cases hl : i < env2.length
      · rw [List.getElem?_set_self hl] at ej
        cases ej
      · rw [List.getElem?_eq_none (by simpa using hl)] at ej
        cases ej
    · rw [List.getElem?_set_ne hj] at ej ⊢
      exact s2.at_ j t ej⟩
  exact ⟨fun σ2 H2 ow2 env2 f2 i2 s2 z => k.nx _ _ _ _ (fs.trans f2) ((io1.trans i2).trans (ios_set hio)) (un s2) z, k.rt.step fs io1, fun σ2 H2 ow2 env2 f2 i2 s2 z => k.bk _ _ _ _ (fs.trans f2) ((io1.trans i2).trans (ios_set hio)) (un s2) z,
    fun σ2 H2 ow2 env2 f2 i2 s2 z => k.ct _ _ _ _ (fs.trans f2) ((io1.trans i2).trans (ios_set hio)) (un s2) z, k.ex.step fs io1⟩
def sTryOnly (ca : Str → Addr) (ns : List Str) (hit : Str → Bool) (sb : SemS) (ss : Addr → Addr → Option Addr → SemS) : SemS := fun D env => sb { D with ex := fun r env1 => ∃ x, r.C = ca x ∧ x ∈ ns ∧ (hit x = true → ∀ a d, ss a r.C d D env1) ∧ (hit x = false → D.ex r env1) } env
theorem s_tryOnly {X : Cx} {W : WX} {IO : List Nat} {y : Str} {body suite : List Stmt} {b0 : Stmt} {np pos pos' : Pos} {sb : SemS} {ss : Addr → Addr → Option Addr → SemS} {ca : Str → Addr} {ns ts cs fs : List Str} {isa : Str → Str → Bool}
    (T : Xt X.K X.mg ca ns ts cs fs isa) (hy : y ∈ cs) (hgy : Gl X y) (tk : L2.Takes X W) (hb : ∀ (W1 : WX) (pn : List (Addr × Obj)) (xe : Value → Shared → Prop), L2.Takes (X.tr pn xe) W1 → PassesOwn (model X.prog X.w) X.A X.env xe → QSs (X.tr pn xe) W1 IO body sb)
    (hsu : ∀ (a C : Addr) (d : Option Addr) (pn : List (Addr × Obj)), Pn (X.suite a pn) a C d → QSs (X.suite a pn) W IO (b0 :: suite) (ss a C d))
    (hs : X.stack = X.env :: X.outer := by rfl) (hf : X.env.frame = some X.env.locals := by rfl) (hdy : (y == ("__debug__" : Str)) = false := by decide) :
    QS X W IO (.Try body [.ExceptHandler (some (.Name y np)) none (b0 :: suite) pos'] [] [] pos) (sTryOnly ca ns (fun x => isa x y) sb ss) := by
  refine ⟨PS_imp (ps_try_only (c := .ref (ca y)) (tb := fun W1 => tS X.K W1 IO sb) (ts := fun a cls d D σ H => ∃ C : Addr, cls = .ref C ∧ tS X.K W IO (ss a C d) D σ H) (Wout := W) hs hf ⟨hgy, hdy, .inl (T.mg y (.inr hy))⟩ tk (fun W1 pn xe t p => (hb W1 pn xe t p).run)
    (fun a oe cls d pn hz hv => ⟨fun pins s σ H D I ⟨C, ec, q⟩ => by subst ec; exact (hsu a C d ((a, oe) :: pn) ⟨oe, List.mem_cons_self, hz, hv⟩).run.run pins s σ H D I q⟩)) fun D σ H ⟨ow, env, De, s, hq, k⟩ => ?_⟩
  refine ⟨ow, env, _, s, hq, ⟨k.nx, k.rt, k.bk, k.ct, fun r d σ1 H1 ow1 env1 fs io st rz z => ?_⟩⟩
  obtain ⟨x, hx, hn, z1, z2⟩ := z
  exact ⟨isa x y, by rw [hx]; exact T.exm x hn y hy, fun e a ha => ⟨r.C, rfl, ow1, env1, _, st, z1 e a d, k.step fs io⟩, fun e => k.ex r d σ1 H1 ow1 env1 fs io st rz (z2 e)⟩
section
variable {P : Program} {w : World} {K : PySem.W.Frag} {mg : Str → Option Value} {base : Heap}
structure FnP (P : Program) (w : World) (K : PySem.W.Frag) (mg : Str → Option Value) (base : Heap) (k : Nat) (f : Addr) (fd : FuncData) (ps : List Str) (sp : Addr → Addr → Option Addr → Sp) : Prop where
  len : ∀ a C d vs H Q E, sp a C d vs H Q E → vs.length = ps.length
  run : ∀ (A : Around) (outer : List PySem.Env) (s : Shared) (H : Hp) (args : Args) (us : List Value) (vs : List V) (Q : VK) (p : Addr × Obj) (C : Addr) (d : Option Addr), L2H.RoomH k A → A.guards = some [] → L2H.PinOk outer H s p → Zc (.ref C) d p.2 → (∃ ws, p.2.data = .fields ws) → Env0 P w K mg base A outer s H → BindsTo s fd args (ps.zip us) → Vals vs us → sp p.1 C d vs H Q (fun _ _ _ => False) →
    codeAny (model P w) A (.call (.ref f) args) (CR (fun _ _ _ _ _ _ => False) outer P w H s Q fun _ _ _ => False) s
theorem fnP_of {k : Nat} {x qual : Str} {st : Stmt} {f : Addr} {fd : FuncData} {N ps : List Str} {sp : Addr → Addr → Option Addr → Sp} (F : Fun K x qual st f fd) (S : FnScope N ps (defScope st)) (len : ∀ a C d vs H Q E, sp a C d vs H Q E → vs.length = ps.length)
    (hb : ∀ (cdv : Value) (A : Around) (outer : List PySem.Env) (s : Shared) (H : Hp) (vs : List V) (Q : VK) (p : Addr × Obj) (C : Addr) (d : Option Addr), L2H.RoomH k (A.deeper (envOfC qual (defScope st) s.heap.objs.size f cdv)) → A.guards = some [] →
      Pn (L2H.cxH (fun _ _ _ _ _ _ => False) P w K mg base N qual (defScope st) f cdv A outer s H (fun _ _ _ => False) p) p.1 C d → sp p.1 C d vs H Q (fun _ _ _ => False) →
      ∃ t, PSs (L2H.cxH (fun _ _ _ _ _ _ => False) P w K mg base N qual (defScope st) f cdv A outer s H (fun _ _ _ => False) p) (defBody st) t ∧ t { nx := fun _ H' => Q .non H', rt := Q } (L2.start N vs) H) : FnP P w K mg base (k + 1) f fd ps sp := by
  obtain ⟨oc, od, kV, doc, pm, an, cdv, ct, osl, rfl, lk, hcd⟩ := F.ex
  refine ⟨len, fun A outer s H args us vs Q p C d hr hG hpin hz hv e0 hbind r hsp => ?_⟩
  have hl := len _ _ _ _ _ _ _ hsp
  have KX : K.In s.heap := e0.mod.kin.keeps fun b o e => (e0.bs b o e).1
  have lim : s.heap.NoLimit := e0.mod.nolimit.keeps fun b o e => (e0.bs b o e).1
  have hkind : ∀ y ∈ ps.zip us, (defScope st).names.lookup y.1 = some .local ∨ ((defScope st).names.lookup y.1 = some .cell ∧ ((cellsFrom (s.heap.objs.size + 1) (defScope st).names []).lookup y.1).isSome = true) := fun ⟨n, v⟩ hy => by
    rcases S.par n (List.of_mem_zip hy).1 with q | q
    · exact .inl q
    · exact .inr ⟨q, PySem.W.cellsFrom_some _ _ _ (.inl q)⟩
  refine codeAny_call_function hr.depth (KX _ _ lk) rfl S.co S.gen rfl (PySem.W.codeRec_of KX hcd) (hbind _ _ _ _ ?_)
  refine wpAny_newFunctionEnv_cells S.kind hkind fun env he s1 x => ?_
  subst he
  refine ⟨lim.keeps x.toInCall.keep, codeAny_func ?_⟩
  obtain ⟨t, ht, hq⟩ := hb cdv A outer s H vs Q p C d (hr.deeper _) hG ⟨p.2, List.mem_singleton.mpr rfl, hz, hv⟩ hsp
  have I : Inv (L2H.cxH (fun _ _ _ _ _ _ => False) P w K mg base N qual (defScope st) f cdv A outer s H (fun _ _ _ => False) p) [] (L2.start N vs) H s1 := L2H.inv_startH S hpin e0 hl r x
  refine wpAny_mono (ht.run [] s1 (L2.start N vs) H _ I hq) (fun fl s' hs => ?_) fun e s' hs => hs
  have fin : ∀ {σ' : L2.St} {H' : Hp} {v : V} {u : Value}, Inv (L2H.cxH (fun _ _ _ _ _ _ => False) P w K mg base N qual (defScope st) f cdv A outer s H (fun _ _ _ => False) p) [] σ' H' s' → RelV v u → Q v H' → CE outer P w H s Q u s' :=
    fun {σ' H' v u} J rv q => ⟨v, H', J.os, J.bare, J.base, J.hok, rv, q⟩
  cases fl with
  | ret u =>
    obtain ⟨v, σ', H', J, rv, q⟩ := hs
    exact fin J rv q
  | next =>
    obtain ⟨σ', H', J, q⟩ := hs
    exact fin (v := V.non) (u := Value.none) J rfl q
  | brk =>
    obtain ⟨_, _, _, q⟩ := hs
    exact False.elim q
  | cont =>
    obtain ⟨_, _, _, q⟩ := hs
    exact False.elim q
abbrev SemX := List D → (D → Prop) → Prop
def spP (K : PySem.W.Frag) (n : Nat) (spec : SemX) (a C : Addr) (d : Option Addr) : Sp := fun vs H Qv _ => vs.length = n ∧ ∃ (ow : Ow) (ds : List D) (Q : D → Prop) (ks : List Str) (es : List D), ds.length = n ∧ ds[0]? = some (.exc a C d ks es) ∧ Rps K (Bs H ow) vs ds ∧ spec ds Q ∧
  ∀ (v : V) (u : D) (H' : Hp) (ow' : Ow), Fs H ow H' ow' → Rp K (Bs H' ow') v u → Q u → Qv v H'
def QFnP (P : Program) (w : World) (K : PySem.W.Frag) (mg : Str → Option Value) (base : Heap) (k : Nat) (f : Addr) (fd : FuncData) (ps : List Str) (spec : SemX) : Prop := FnP P w K mg base k f fd ps (spP K ps.length spec)
theorem qfnP_of {k : Nat} {x qual : Str} {st : Stmt} {f : Addr} {fd : FuncData} {N ps : List Str} {spec : SemX} (F : Fun K x qual st f fd) (S : FnScope N ps (defScope st))
    (hb : ∀ (cdv : Value) (A : Around) (outer : List PySem.Env) (s : Shared) (H : Hp) (p : Addr × Obj) (C : Addr) (d : Option Addr), L2H.RoomH k (A.deeper (envOfC qual (defScope st) s.heap.objs.size f cdv)) → A.guards = some [] →
      Pn (L2H.cxH (fun _ _ _ _ _ _ => False) P w K mg base N qual (defScope st) f cdv A outer s H (fun _ _ _ => False) p) p.1 C d →
      ∃ q, QSs (L2H.cxH (fun _ _ _ _ _ _ => False) P w K mg base N qual (defScope st) f cdv A outer s H (fun _ _ _ => False) p) W0 [] (defBody st) q ∧ ∀ (ds : List D) (Q : D → Prop) (ks : List Str) (es : List D), ds.length = ps.length → ds[0]? = some (.exc p.1 C d ks es) → spec ds Q →
        q (EndsF [] (fun t _ => Q t.d) fun _ _ => False) (env0 N.length (ds.map .fz))) : QFnP P w K mg base (k + 1) f fd ps spec := by
  refine fnP_of F S (fun a C d vs H Q E h => h.1) fun cdv A outer s H vs Qv p C d hr hG hp ⟨hl, ow, ds, Q, ks, es, h1, h2, h3, h4, h5⟩ => ?_
  obtain ⟨q, hq, hs⟩ := hb cdv A outer s H p C d hr hG hp
  refine ⟨_, hq.run, ow, env0 N.length (ds.map .fz), _, ⟨?_, fun i t e => ?_⟩, hs ds Q ks es h1 h2 h4, ?_⟩
  · unfold env0 L2.start
    rw [List.length_append, List.length_append, List.length_map, List.length_map, List.length_map, List.length_replicate, List.length_replicate, h1, hl]
  · have e1 := env0_get e
    rw [List.getElem?_map] at e1
    cases ed : ds[i]? with
    | none => rw [ed] at e1; cases e1
    | some u =>
      rw [ed] at e1
      cases e1
      obtain ⟨v, e2, r⟩ := h3.get ed
      exact ⟨v, start_get e2, Tq.fz_.mpr r⟩
  · refine ⟨fun σ' H' ow' env' fs i s' z => ?_, fun v t σ' H' ow' env' fs i s' r z => ?_, fun _ _ _ _ _ _ _ z => z.elim, fun _ _ _ _ _ _ _ z => z.elim, fun r d σ' H' ow' env' fs i s' rz z => ?_⟩
    · exact h5 .non .non H' ow' fs .non z
    · have y2 : Stp [] 0 H' ow' H' (Ow.mv ow' (.tm 0) .base) := Stp.mv not_tm
      exact h5 v t.d H' _ (fs.trans y2.fs) (r.frz (fun z => nomatch z)) z
    · exact z.elim
end
section
variable {X : Cx} {W : WX} {M : List Nat} {k : Nat} {f : Addr} {fd : FuncData} {ps : List Str} {spec : SemX} {ks : List (Option Nat)} {e : Expr} {es : List Expr} {qs : SemD} {x : Str} {p pos : Pos} {a C : Addr} {d : Option Addr}
def CalleeP (P : Program) (w : World) (K : PySem.W.Frag) (mg : Str → Option Value) (base : Heap) (k : Nat) (x : Str) (ps : List Str) (spec : SemX) : Prop :=
  ∃ (f : Addr) (fd : FuncData), QFnP P w K mg base k f fd ps spec ∧ mg x = some (.ref f) ∧ PySem.W.keepIn K (.ref f) = true ∧ Binds K fd ps []
theorem q_callP (F : CalleeP X.prog X.w X.K X.mg X.base k x ps spec) (hP : Pn X a C d) (hr : L2H.RoomH k X.A) (hG : X.A.guards = some []) (hg : Gl X x)
    (ha : QA X W M ks (e :: es) qs) (hk : (ks.all fun x => x.isNone) = true := by rfl) (hn : ks.length = ps.length := by rfl) (hdb : (x == ("__debug__" : Str)) = false := by decide) (he : starEach (e :: es) X.env = (false, eval e X.env) :: starEach es X.env := by rfl)
    (hpl : (backTo pos (starEach es X.env)).any (·.1) = false := by rfl) : QE X W M (.Call (.Name x p) (e :: es) [] pos) (fun env Q E => qs env (fun ds env1 => (match ds with | .exc a' C' d' _ _ :: _ => a' = a ∧ C' = C ∧ d' = d | _ => False) ∧ spec ds fun u => Q (.fz u) env1) E) := by
  obtain ⟨f, fd, F, hm, hkp, hb⟩ := F
  refine ⟨⟨fun pins s σ H Qv I ⟨n, ow, env, Q, E, st, hq, kk, xx⟩ => ?_⟩⟩
  refine wpAny_Call_Name_kw (ld_glob I hg hm ?_ hdb)
  refine PySem.W.callWith_K (h₀ := X.base) I.ok.mod.kin hkp (thn (ha.run.run pos pins s σ H (fun vs H1 => spP X.K ps.length spec a C d vs H1 Qv fun _ _ _ => False) I ⟨n, ow, env, _, E, st, hq, fun vs ds H1 ow1 env1 y1 s1 o1 l1 l2 hv z => ?_, xx⟩) fun us s1 ⟨vs, H1, I1, r, q⟩ => ⟨I1.kIn, ?_⟩) he hpl
  · obtain ⟨z1, z2⟩ := z
    have rr : Rps X.K (Bs H1 ow1) vs ds := by
      have all : ∀ (vs : List V) (ds : List D), vs.length = ds.length → (∀ (j : Nat) (v : V) (d : D), vs[j]? = some v → ds[j]? = some d → Rp X.K (Bs H1 ow1) v d) → Rps X.K (Bs H1 ow1) vs ds := by
        intro vs
        induction vs with
        | nil => intro ds h _; cases ds with
          | nil => exact .nil
          | cons _ _ => simp at h
        | cons v vs ih => intro ds h g; cases ds with
          | nil => simp at h
          | cons d ds => exact .cons (g 0 v d rfl rfl) (ih ds (by simpa using h) fun j v d e1 e2 => g (j + 1) v d (by simpa using e1) (by simpa using e2))
      refine all vs ds (l1.trans l2.symm) fun j v d e1 e2 => (hv j v d e1 e2).1 ?_
      have hj : j < ks.length := by have := (List.getElem?_eq_some_iff.mp e1).1; omega
      have := List.all_eq_true.mp hk ks[j] (List.getElem_mem hj)
      rw [List.getElem?_eq_getElem hj]
      cases h : ks[j] with
      | none => rfl
      | some _ => rw [h] at this; cases this
    have hd0 : ∃ ks' es', ds[0]? = some (.exc a C d ks' es') := by
      split at z1
      · obtain ⟨rfl, rfl, rfl⟩ := z1; exact ⟨_, _, rfl⟩
      · exact z1.elim
    obtain ⟨ks', es', hd0⟩ := hd0
    have sb : Same (Bs H1 ow1) (Bs H1 fun b => if ow1 b = .base then .base else .fr) := fun b o eb => by
      obtain ⟨e1, e2⟩ := bs_some eb
      unfold Bs
      rw [if_pos (by dsimp only; rw [if_pos e1])]
      exact e2
    refine ⟨by omega, fun b => if ow1 b = .base then .base else .fr, ds, fun u => Q (.fz u) env1, ks', es', by omega, hd0, rr.mono sb, z2, fun v u H' ow' fs ru qq => ?_⟩
    have old : ∀ b o, H1 b = some o → H' b = some o ∧ (match ow' b with | .base => Lab.base | .fr => ow1 b | _ => .tm n) = ow1 b := fun b o eb => by
      have h1 : (if ow1 b = .base then Lab.base else Lab.fr) = .fr ∨ (if ow1 b = .base then Lab.base else Lab.fr) = .base := by
        by_cases z : ow1 b = .base
        · exact .inr (if_pos z)
        · exact .inl (if_neg z)
      obtain ⟨g1, g2⟩ := fs b o eb h1
      refine ⟨g1, ?_⟩
      rw [g2]
      by_cases z : ow1 b = .base
      · simp only [z, if_true]
      · simp only [z, if_false]
    have y2 : Stp [] n H1 ow1 H' (fun b => match ow' b with | .base => Lab.base | .fr => ow1 b | _ => .tm n) := fun b o eb _ => old b o eb
    refine kk v (.fz u) H' _ env1 (y1.trans y2 (fun _ h => h) nilsub (Nat.le_refl _) (Nat.le_refl _)) (s1.stp0 y2) o1 (Tq.fz_.mpr (ru.mono fun b o eb => ?_)) qq
    obtain ⟨e1, e2⟩ := bs_some eb
    unfold Bs
    rw [if_pos (by dsimp only; rw [e1])]
    exact e2
  · obtain ⟨oe, hp, hz, hv⟩ := hP
    have hl : us.length = ps.length := by rw [← r.length]; exact F.len _ _ _ _ _ _ _ q
    have b := hb s1 us I1.kIn (by rw [List.append_nil]; exact hl)
    rw [List.append_nil] at b
    have P1 := I1.pin (a, oe) (List.mem_append_left _ hp)
    have hpin : L2H.PinOk X.stack H1 s1 (a, oe) := ⟨P1.1, P1.2.1, fun hm => (List.mem_cons.mp (I1.stkSub a hm)).elim P1.2.2.1 P1.2.2.2.1, P1.2.2.2.2⟩
    refine wpAny_call (codeAny_mono (F.run X.A X.stack s1 H1 ⟨us, []⟩ us vs Qv (a, oe) C d hr hG hpin hz hv I1.env0 b r q) fun r s' hq => ?_)
    cases r with
    | error e => exact False.elim hq
    | ok fl =>
      cases fl with
      | ret u => exact I1.after hq
      | next => exact False.elim hq
      | brk => exact False.elim hq
      | cont => exact False.elim hq
end
end QV

set_option Elab.async false
set_option linter.all false
set_option maxRecDepth 100000
set_option maxHeartbeats 2000000
namespace QV
open PySem PySem.Spec PyProof.Rows L2
def inCls : Stmt → Nat → Stmt
  | .ClassDef (body := b) .., j => b.getD j (.Pass ⟨0, 0, 0, 0⟩)
  | _, _ => .Pass ⟨0, 0, 0, 0⟩
section
variable {P : Program} {w : World} {K : PySem.W.Frag} {mg : Str → Option Value} {base : Heap}
structure BareG (P : Program) (w : World) (K : PySem.W.Frag) (mg : Str → Option Value) (base : Heap) (k : Nat) (x : Str) (C : Addr) : Prop where
  at_ : mg x = some (.ref C)
  ex : ∃ fI fd, OexC K C ∧ PySem.W.findIn K (.ref C) "__init__" = some (some (.ref fI)) ∧ PySem.W.typeIn K (.ref fI) = some (.type "function") ∧ FnOk P w K mg base (L2.CX P w) k fI fd ["self"] (spIni K) ∧ Binds K fd ["self"] []
structure BareG1 (P : Program) (w : World) (K : PySem.W.Frag) (mg : Str → Option Value) (base : Heap) (k : Nat) (x : Str) (C : Addr) (f : Str) (ps : List Str) : Prop where
  at_ : mg x = some (.ref C)
  no : PySem.W.findIn K (.ref C) f = some none
  ex : ∃ fI fd, OexC K C ∧ PySem.W.findIn K (.ref C) "__init__" = some (some (.ref fI)) ∧ PySem.W.typeIn K (.ref fI) = some (.type "function") ∧ FnOk P w K mg base (L2.CX P w) k fI fd ps (spIni1 K f) ∧ Binds K fd ps []
structure BaseC (K : PySem.W.Frag) (mg : Str → Option Value) (b : Str) : Prop where
  ex : ∃ S, mg b = some (.ref S) ∧ PySem.W.specialIn K (.ref S) "__getattribute__" = some (some (.builtin "type.__getattribute__")) ∧ PySem.W.readsIn K S (.type "type") = true ∧ PySem.W.findCls K (.ref S) (.type "type") "__init__" = some (.val (.builtin "ValueError.__init__"))
theorem kit_sub {x y : Addr} {b : Bool} (h1 : PySem.W.hasDictIn K y = true) (h2 : PySem.W.typeIn K (.ref y) = some (.type "type")) (h3 : PySem.W.subIn K (.ref x) (.ref y) = some b) (hs : PySem.W.subIn K (.ref y) (.ref y) = some true) : PySem.W.kitOne K (.ref x) (.ref y) = some b := by
  unfold PySem.W.kitOne
  by_cases e : (Value.ref x == Value.ref y) = true
  · rw [if_pos e]
    have : x = y := Value.ref.inj (beq_iff_eq.mp e)
    subst this
    rw [h3] at hs
    exact hs.symm
  · rw [if_neg e]
    obtain ⟨cd, hc, _⟩ := PySem.W.any_some h1
    have e2 : ((PySem.W.clsIn K y).isSome && PySem.W.typeIn K (.ref y) == some (.type "type")) = true := by rw [hc, h2] <;> rfl
    show (if ((PySem.W.clsIn K y).isSome && PySem.W.typeIn K (.ref y) == some (.type "type")) = true then PySem.W.subIn K (.ref x) (.ref y) else none) = some b
    rw [if_pos e2]
    exact h3
theorem kit_val {x : Addr} (h : PySem.W.subIn K (.ref x) (.type "ValueError") = some true) : PySem.W.kitOne K (.ref x) (.type "ValueError") = some true := by
  unfold PySem.W.kitOne
  have e : ¬ (Value.ref x == Value.type "ValueError") = true := fun z => by cases (beq_iff_eq.mp z)
  rw [if_neg e]
  show (if PySem.W.kitMeta "ValueError" = true then PySem.W.subIn K (.ref x) (.type "ValueError") else none) = some true
  rw [if_pos (by decide +kernel)]
  exact h
theorem roomS {A : Around} {v : Option Value} {j k : Nat} (hr : Room j A) (h : k ≤ j) : L2H.RoomH k (A.mark v) := ⟨(L2H.roomH_of (hr.mono h)).dp, (L2H.roomH_of (hr.mono h)).un⟩
theorem hu65H {A : Around} {k : Nat} (hr : L2H.RoomH k A) : A.units + 65 < cLine := by have := hr.un; omega
theorem calleeP_of {k : Nat} {x : Str} {st : Stmt} {N ps : List Str} {spec : SemX} (Df : DefAt K mg x st ps) (S : FnScope N ps (defScope st))
    (hb : ∀ (f : Addr) (cdv : Value) (A : Around) (outer : List PySem.Env) (s : Shared) (H : Hp) (p : Addr × Obj) (C : Addr) (d : Option Addr), L2H.RoomH k (A.deeper (envOfC x (defScope st) s.heap.objs.size f cdv)) → A.guards = some [] →
      Pn (L2H.cxH (fun _ _ _ _ _ _ => False) P w K mg base N x (defScope st) f cdv A outer s H (fun _ _ _ => False) p) p.1 C d →
      ∃ q, QSs (L2H.cxH (fun _ _ _ _ _ _ => False) P w K mg base N x (defScope st) f cdv A outer s H (fun _ _ _ => False) p) W0 [] (defBody st) q ∧ ∀ (ds : List D) (Q : D → Prop) (ks : List Str) (es : List D), ds.length = ps.length → ds[0]? = some (.exc p.1 C d ks es) → spec ds Q →
        q (EndsF [] (fun t _ => Q t.d) fun _ _ => False) (env0 N.length (ds.map .fz))) : CalleeP P w K mg base (k + 1) x ps spec :=
  let ⟨f, fd, F, m, b⟩ := Df
  ⟨f, fd, qfnP_of F S (hb f), m, F.kp, b⟩
theorem all_in {α : Type} {p : α → Prop} {a : α} {l : List α} (h : p a) (t : ∀ x, x ∈ l → p x) : ∀ x, x ∈ a :: l → p x := fun x hx => by
  rcases List.mem_cons.mp hx with rfl | hx
  · exact h
  · exact t x hx
theorem no_in {α : Type} {p : α → Prop} : ∀ x, x ∈ ([] : List α) → p x := fun _ h => nomatch h
theorem fun_at {x qual : Str} {st : Stmt} {f : Addr} {ps : List Str} {oc : Value} {od an : Option Addr} {osl : Array (Option Value)} {kV doc pm cdv ct : Value}
    (l : K.lookup f = some ⟨oc, od, .func (PySem.W.fnOf x qual (defArgs st) (defBody st) (defScope st) .none kV doc pm an cdv ct), osl⟩) (c : PySem.W.codeIn K cdv qual = true) (k : PySem.W.keepIn K (.ref f) = true)
    (hb : ∀ (kV doc pm : Value) (an : Option Addr) (cdv ct : Value) (us : List Value), us.length = ps.length → bindArgs (PySem.W.fnOf x qual (defArgs st) (defBody st) (defScope st) .none kV doc pm an cdv ct) ⟨us, []⟩ = pure (ps.zip us)) : ∃ fd, Fun K x qual st f fd ∧ Binds K fd ps [] :=
  have F := fun_mk (x := x) (qual := qual) (st := st) l c k
  ⟨_, F, F.binds hb⟩
end
end QV

set_option Elab.async false
set_option linter.all false
set_option maxRecDepth 100000
set_option maxHeartbeats 2000000
namespace QV
open PySem PySem.Spec PyProof.Rows L2
def rCntF (K : PySem.W.Frag) : V → List V → Hp → VK → Prop := fun x xs H Q => ∃ (p : Addr) (ys : List V) (y : V), x = .ref p ∧ xs = [y] ∧ SqL K H p ys ∧ flatV y = true ∧ ys.all flatV = true ∧ Q (.int ((ys.countP fun z => eqV z y : Nat) : Int)) H
theorem count_eqU {y : V} : ∀ {ys : List V} {us : List Value}, Vals ys us → ys.all flatV = true → us.countP (eqU y) = ys.countP fun z => eqV z y
  | _, _, .nil, _ => rfl
  | _, _, .cons r t, f => by
    rw [List.all_cons, Bool.and_eq_true] at f
    rw [List.countP_cons, List.countP_cons, count_eqU t f.2, eqU_of r f.1]
theorem mt_fcount {X : Cx} : MtR X "list.count" (rCntF X.K) := by
  intro pins s σ H x xs v us Q I rx rxs h
  obtain ⟨p, ys, y, rfl, rfl, hs, fy, fys, q⟩ := h
  cases rx
  cases rxs with
  | cons ry rt =>
    rename_i uy ut
    cases rt
    obtain ⟨its, rv, ⟨⟨cls, dd, data, sl⟩, n, ho, hc, hdn, hd⟩, hlen⟩ := I.list hs
    simp only at hc hd
    subst hc hd
    refine call_meets PySem.F.slot_list_count ⟨_, ho, rfl⟩ PySem.F.entry_list_count (PySem.F.args_list_count_2 _ _)
      (SeqAt.list_countAt p its.toArray n dd sl uy (eqU y)) ⟨ho, fun u' hu' => mem_eqAt ry fy rv fys u' (by simpa using hu'), ?_⟩
    have ec : its.toArray.toList.countP (eqU y) = ys.countP fun z => eqV z y := count_eqU rv fys
    refine ⟨.int ((ys.countP fun z => eqV z y : Nat) : Int), H, I.tok _, ⟨s.toks, ?_⟩, q⟩
    show Value.int ((its.toArray.toList.countP (eqU y) : Nat) : Int) s.toks = _
    rw [ec]
section
variable {X : Cx} {W : WX} {Ma Ml : List Nat} {e o : Expr} {ra rb : Option Nat} {pa pb : SemP} {apos pos : Pos}
def sLm (pa pb : SemP) (g : List D → D → (D → Prop) → Prop) : SemE := fun env Q E => pa env (fun t _ env1 => match shL t with
  | some ds => pb env1 (fun u _ env2 => g ds u.d fun w => Q (.fz w) env2) E
  | none => False) E
def LmO (K : PySem.W.Frag) (r : V → List V → Hp → VK → Prop) (g : List D → D → (D → Prop) → Prop) : Prop := ∀ (H : Hp) (a : Addr) (vs : List V) (v : V) (ds : List D) (d : D) (Q : D → Prop) (Qv : VK), SqL K H a vs → vs.length ≤ sizeLine → Rps K H vs ds → Rp K H v d → g ds d Q →
  (∀ w u, (∀ B, Rp K B w u) → Q u → Qv w H) → r (.ref a) [v] H Qv
theorem q_lm {id : String} {name : Str} {r : V → List V → Hp → VK → Prop} {g : List D → D → (D → Prop) → Prop} (slot : Slot "list" name id) (hty : typeOf (.builtin id) = pure (.type "method_descriptor")) (hm : MtR X id r) (hg : LmO X.K r g) (ho : QP X W Ma ra o pa) (he : QP X W Ml rb e pb)
    (hr : okR ra Ml = true := by decide) (hbase : attributeBase o name X.env (eval o X.env) = eval o X.env := by rfl)
    (hfew : ((backTo pos (starEach [e] X.env)).all (fun x => !x.1) && (backToKw pos (keywordEach [] X.env)).all (fun x => x.1.isSome)
      && decide (([e] : List Expr).length + ([] : List Keyword).length + (if ([] : List Keyword).isEmpty then 0 else 1) < 30)) = true := by rfl)
    (hline : (apos.endLine == pos.line) = true := by rfl) (hs : starEach [e] X.env = (false, eval e X.env) :: starEach [] X.env := by rfl) (hplain : (backTo pos (starEach [] X.env)).any (·.1) = false := by rfl) :
    QE X W (Ma ++ Ml) (.Call (.Attribute o name apos) [e] [] pos) (sLm pa pb g) :=
  ⟨PE_imp (pe_bm PySem.F.plainAttrs_list slot hty hm ho.run (pa_cons he.run pa_nil hs) hbase hfew hline hs hplain) fun σ H Qv ⟨n, ow, env, Q, E, s, hq, k, x⟩ => ⟨n, ow, env, _, E, s, hq, fun v t pt H1 ow1 env1 y1 s1 o1 r1 z1 => by
    split at z1
    · rename_i ds et
      obtain ⟨a, vs, rfl, h1, hz, rr⟩ := (r1.ro s1).lst et
      refine ⟨.inl ⟨rfl, _, .inl (.inl h1)⟩, n + 1, ow1, env1, _, E, s1, z1, fun w u pu H2 ow2 env2 y2 s2 o2 r2 z2 => ?_, x.step y1 o1 subl subr (Nat.le_refl _) (Nat.le_succ _)⟩
      have r1' := (r1.stp y2 o2 hr (Nat.lt_succ_self _)).ro s2
      obtain ⟨a', vs', e', h1', hz', rr'⟩ := r1'.lst et
      cases e'
      refine hg H2 a vs' w ds u.d _ Qv (.inl (.inl h1')) hz' (rr'.mono (bs_same _ _)) (r2.ro s2).rd z2 fun v' d' rd qd => ?_
      exact k v' (.fz d') H2 ow2 env2 (y1.trans y2 subl subr (Nat.le_refl _) (Nat.le_succ _)) s2 (o1.trans o2 subl subr) (Tq.fz_.mpr (rd _)) qd
    · exact z1.elim, fun r d H' ow' env' y s' o => x r d H' ow' env' (y.mono subl (Nat.le_refl _)) s' (o.mono subl)⟩⟩
def cntG (ds : List D) (d : D) (Q : D → Prop) : Prop := (flD d && ds.all flD) = true ∧ Q (.int ((ds.countP fun z => eqD z d : Nat) : Int))
theorem fl_cnt {K : PySem.W.Frag} {B : Hp} {x : V} {d : D} (rx : Rp K B x d) (h : flD d = true) : ∀ {vs : List V} {ds : List D}, Rps K B vs ds → ds.all flD = true → (vs.countP fun z => eqV z x) = ds.countP fun z => eqD z d
  | _, _, .nil, _ => rfl
  | _, _, .cons r s, k => by
    rw [List.all_cons, Bool.and_eq_true] at k
    rw [List.countP_cons, List.countP_cons, fl_eq r rx k.1 h, fl_cnt rx h s k.2]
theorem g_cnt {K : PySem.W.Frag} : LmO K (rCntF K) cntG := fun H a vs v ds d Q Qv c hz rr rv ⟨h, q⟩ k => by
  rw [Bool.and_eq_true] at h
  refine ⟨a, vs, v, rfl, rfl, c, fl_V rv h.1, fl_all rr h.2, k _ _ (fun B => ?_) q⟩
  rw [fl_cnt rv h.1 rr h.2]
  exact .int _
theorem q_count (ho : QP X W Ma ra o pa) (he : QP X W Ml rb e pb)
    (hr : okR ra Ml = true := by decide) (hbase : attributeBase o "count" X.env (eval o X.env) = eval o X.env := by rfl)
    (hfew : ((backTo pos (starEach [e] X.env)).all (fun x => !x.1) && (backToKw pos (keywordEach [] X.env)).all (fun x => x.1.isSome)
      && decide (([e] : List Expr).length + ([] : List Keyword).length + (if ([] : List Keyword).isEmpty then 0 else 1) < 30)) = true := by rfl)
    (hline : (apos.endLine == pos.line) = true := by rfl) (hs : starEach [e] X.env = (false, eval e X.env) :: starEach [] X.env := by rfl) (hplain : (backTo pos (starEach [] X.env)).any (·.1) = false := by rfl) :
    QE X W (Ma ++ Ml) (.Call (.Attribute o "count" apos) [e] [] pos) (sLm pa pb cntG) := q_lm PySem.F.slot_list_count PySem.F.type_list_count mt_fcount g_cnt ho he hr hbase hfew hline hs hplain
def idxG (ds : List D) (d : D) (Q : D → Prop) : Prop := (flD d && ds.all flD) = true ∧ ∃ (j : Nat) (z : D), ds[j]? = some z ∧ eqD z d = true ∧ (∀ m z', m < j → ds[m]? = some z' → eqD z' d = false) ∧ Q (.int (j : Nat))
theorem g_idx {K : PySem.W.Frag} : LmO K (rIndex K) idxG := fun H a vs v ds d Q Qv c hz rr rv ⟨h, j, z, hj, he, hno, q⟩ k => by
  rw [Bool.and_eq_true] at h
  obtain ⟨w, hw, rw'⟩ := rr.get hj
  have fz : flD z = true := List.all_eq_true.mp h.2 z (List.mem_of_getElem? hj)
  refine ⟨a, vs, v, j, w, rfl, rfl, c, fl_V rv h.1, fl_all rr h.2, hw, by rw [fl_eq rw' rv fz h.1]; exact he, fun m z' hm hz' => ?_, k _ _ (fun B => .int _) q⟩
  obtain ⟨d', hd', r'⟩ := rr.getV hz'
  rw [fl_eq r' rv (List.all_eq_true.mp h.2 d' (List.mem_of_getElem? hd')) h.1]
  exact hno m d' hm hd'
theorem q_index (ho : QP X W Ma ra o pa) (he : QP X W Ml rb e pb)
    (hr : okR ra Ml = true := by decide) (hbase : attributeBase o "index" X.env (eval o X.env) = eval o X.env := by rfl)
    (hfew : ((backTo pos (starEach [e] X.env)).all (fun x => !x.1) && (backToKw pos (keywordEach [] X.env)).all (fun x => x.1.isSome)
      && decide (([e] : List Expr).length + ([] : List Keyword).length + (if ([] : List Keyword).isEmpty then 0 else 1) < 30)) = true := by rfl)
    (hline : (apos.endLine == pos.line) = true := by rfl) (hs : starEach [e] X.env = (false, eval e X.env) :: starEach [] X.env := by rfl) (hplain : (backTo pos (starEach [] X.env)).any (·.1) = false := by rfl) :
    QE X W (Ma ++ Ml) (.Call (.Attribute o "index" apos) [e] [] pos) (sLm pa pb idxG) := q_lm PySem.F.slot_list_index PySem.F.type_list_index mt_index g_idx ho he hr hbase hfew hline hs hplain
end
end QV

set_option Elab.async false
set_option linter.all false
set_option maxRecDepth 100000
set_option maxHeartbeats 2000000
namespace L2
open PySem PySem.Spec PyProof.Rows
def ItK (K : PySem.W.Frag) (k : Int) (a : Addr) : It :=
  ⟨fun i H => ∃ (xs : List V) (x : V), SqL K H a xs ∧ xs[i]? = some x, fun i H v H' => ∃ T x, v = .ref T ∧ H T = none ∧ H' = upd H T (.tup [.int (k + (i : Nat)), x]) ∧ ∀ xs, SqL K H a xs → xs[i]? = some x, fun i H => ∃ xs : List V, SqL K H a xs ∧ xs.length ≤ i⟩
theorem enumK_end {prog : Program} {w : World} {A : Around} {E : Value → Shared → Prop} {s : Shared} {e it l : Addr} {c : Int} {i : Nat} {items : Array Value} {old : Value} {Q : Option Value → Shared → Prop} (hh : A.handled = none)
    (he : IsEnum s.heap e it c old) (hit : s.heap.IsListIter it l i) (hl : s.heap.IsList l items) (hx : items[i]? = none)
    (hQ : ∀ h', Heap.ExtBut it s.heap h' → Q none { s with heap := h' }) : wpAny (model prog w) A (pyNext (.ref e)) Q E s := by
  have hT : s.TypeIs (.ref e) "enumerate" := ⟨_, he, rfl⟩
  unfold pyNext
  refine wpAny_bind (wpAny_attempt (wpAny_callSpecial?_slot (name := Str.ofString "__next__") hT F.slot_enumerate_next
    (wpAny_call_entry F.slot_enumerate_next hT F.entry_enumerate_next ?_ (F.args_enumerate_next_1 _))))
  show wpAny _ _ (field (.ref e) 2 >>= _) _ _ _
  refine wpAny_bind (wpAny_field he rfl (x := .ref it) rfl ?_)
  refine wpAny_bind (wpAny_nextOf_list_end hh hit hl hx fun h' x he' hx' => ?_)
  obtain ⟨o, ho, hc⟩ := hx'
  refine wpAny_bind (wpAny_isInstance (T := "StopIteration") (b := true) ⟨o, ho, hc⟩ isSubtype_stop ?_)
  exact wpAny_pure (hQ _ he')
theorem turn_enumK {P : Program} {w : World} {K : PySem.W.Frag} {elts : List Expr} {kk : Nat} {tpos : Pos} (k0 : Int) (a e it : Addr) :
    Turn P w K (.Tuple elts kk tpos) (ItK K k0 a) [e, it] e (fun i h => (∃ old, IsEnum h e it (k0 + ((i : Nat) : Int)) old) ∧ h.IsListIter it a i ∧ e ≠ it) where
  mem := by simp
  obj := fun i h st b hb => by
    obtain ⟨⟨old, he⟩, ⟨o, ho, hc, hd⟩, _⟩ := st
    have e' : b = e ∨ b = it := by simpa using hb
    rcases e' with z | z
    · rw [z]; exact ⟨_, he, fun v q => nomatch q⟩
    · rw [z]; exact ⟨o, ho, fun v q => by rw [hd] at q; cases q⟩
  keep := fun i h h' st k => let ⟨⟨old, he⟩, hi, hne⟩ := st; ⟨⟨old, k e (by simp) _ he⟩, hi.at fun o q => k it (by simp) o q, hne⟩
  item := by
    intro X hP hw hK hc i pins s σ H E I hf st hg
    subst hP hw hK
    obtain ⟨⟨old, he⟩, hit, hne⟩ := st
    obtain ⟨xs, x, hq, hx⟩ := hg
    obtain ⟨its, rv, p, hz⟩ := I.list hq
    obtain ⟨u, hu, ru⟩ := rv.get hx
    have hel : e < s.heap.objs.size := Heap.lt_size he
    have hil : it < s.heap.objs.size := by obtain ⟨_, q, _⟩ := hit; exact Heap.lt_size q
    have hal : a < s.heap.objs.size := by obtain ⟨_, q, _⟩ := p.isList; exact Heap.lt_size q
    have hh : X.A.in1.handled = none := I.ok.hd hc
    have hna : a ≠ it := fun z => by
      subst z
      obtain ⟨o1, q1, c1, _⟩ := p.isList
      obtain ⟨o2, q2, c2, _⟩ := hit
      rw [q1] at q2
      cases q2
      rw [c1] at c2
      exact absurd c2 (by decide)
    have hea : e ≠ a := fun z => by
      subst z
      obtain ⟨o1, q1, c1, _⟩ := p.isList
      rw [show s.heap.get? e = some _ from he] at q1
      cases q1
      exact absurd (show (Value.type "enumerate") = .type "list" from c1) (by decide)
    have hi : i < its.toArray.size := by
      rw [List.size_toArray]
      exact (List.getElem?_eq_some_iff.mp hu).1
    refine wpAny_pyNext_enum_itemC (Draws.list hh it a hna its.toArray) he ⟨hit, p.isList⟩ hi hne (by simp [hne, hea]) fun x2 h' tk hP2 ho hst' hT hsz hk => ?_
    have hx2 : x2 = u := by
      have : its.toArray[i]? = some u := by simpa using hu
      rw [this] at hP2
      exact (Option.some.inj hP2).symm
    subst hx2
    refine ⟨_, rfl, wpAny_letOwnedTupleGo_enum (s := { s with heap := h', toks := tk + 1 }) ho fun h'' he' sb => ?_⟩
    have hT2 : h''.get? s.heap.objs.size = some { cls := .type "tuple", data := .seq #[.int (k0 + (i : Nat)) tk, x2] } := (sb.2 _ (Nat.ne_of_gt hel)).trans hT
    have new : ObjOk X.prog X.w (upd H s.heap.objs.size (.tup [.int (k0 + (i : Nat)), x])) h'' s.heap.objs.size (.tup [.int (k0 + (i : Nat)), x]) :=
      ⟨by show 2 ≤ sizeLine; decide, [.int (k0 + (i : Nat)) tk, x2], .cons ⟨_, rfl⟩ (.cons ru .nil), ⟨_, hT2, rfl, _, rfl⟩⟩
    have I1 : Inv X pins σ (upd H s.heap.objs.size (.tup [.int (k0 + (i : Nat)), x])) { s with heap := h'', toks := tk + 1 } :=
      I.turnedNew (ch := [e, it]) (fun b ob hb q => (sb.2 b (fun z => hb (by simp [z]))).trans (hk b ob (fun z => hb (by simp [z])) (fun z => hb (by simp [z])) q)) hf (Nat.le_refl _) new
    refine ⟨.ref s.heap.objs.size, _, I1, rfl, ⟨_, x, rfl, I.hok.fresh (Nat.le_refl _), rfl, fun ys hy => by rw [I.list_inj hy hq]; exact hx⟩, ⟨⟨x2, ?_⟩, hst'.1.at fun o q => (sb.2 it (Ne.symm hne)).trans q, hne⟩, fun b hb => ?_⟩
    · have e1 : k0 + ((i + 1 : Nat) : Int) = k0 + (i : Int) + 1 := by omega
      rw [e1]; exact he'
    · have hb' : b < s.heap.objs.size := by
        have e' : b = e ∨ b = it := by simpa using hb
        rcases e' with z | z
        · rw [z]; exact hel
        · rw [z]; exact hil
      rw [upd_ne (Nat.ne_of_lt hb')]
      exact (hf b hb).1
  done := by
    intro X hP hw hK hc i pins s σ H E I hf st hg
    subst hP hw hK
    obtain ⟨⟨old, he⟩, hit, hne⟩ := st
    obtain ⟨xs, hq, hx⟩ := hg
    obtain ⟨its, rv, p, hz⟩ := I.list hq
    obtain ⟨f0, f1, f2, f3, f4, f5⟩ := hf it (by simp)
    have hl := rv.length
    exact enumK_end (I.ok.hd hc) he hit p.isList (by simp; omega) fun h' eb => ⟨rfl, I.turned (t' := s.toks) (fun b o hb q => eb b o hb q) f0 f1 f3 f4 f5⟩
  self := fun A i s Q E st h => let ⟨⟨_, he⟩, _⟩ := st; wpAny_pyIter_enum he h
theorem callWith_typeK {M : Model} {A : Around} {E : Value → Shared → Prop} {s : Shared} {env : Env} {pos : Pos} {T : String} {e : Expr} {rest : List Expr} {kws : List Keyword} {Q : Value → Shared → Prop}
    (h : wpAny M A (spliced (backTo pos (starEach (e :: rest) env))) (fun vs s₁ => wpAny M A (evalAll ((backToKw pos (keywordEach kws env)).map (·.2)))
      (fun kvs s₂ => wpAny M A (call (.type T) vs (((backToKw pos (keywordEach kws env)).filterMap (·.1)).zip kvs)) Q E s₂) E s₁) E s)
    (he : backTo pos (starEach (e :: rest) env) = (false, eval e env) :: backTo pos (starEach rest env))
    (hplain : (backTo pos (starEach (e :: rest) env)).any (·.1) = false)
    (hall : (backToKw pos (keywordEach kws env)).all (·.1.isSome) = true)
    (hkw : (backToKw pos (keywordEach kws env)).any (·.1.isNone) = false) :
    wpAny M A (callWith pos (.type T) [] (backTo pos (starEach (e :: rest) env)) (backToKw pos (keywordEach kws env))) Q E s := by
  have h2 : wpAny M A (evalArgs (.type T) true (backTo pos (starEach (e :: rest) env)) (backToKw pos (keywordEach kws env))) (fun a s₁ => wpAny M A (call (.type T) ([] ++ a.pos) a.kw) Q E s₁) E s := by
    rw [he] at h ⊢
    exact PyProof.Rows.evalArgs_kwB hall h
  unfold callWith
  refine wpAny_bind (wpAny_holding (wpAny_mono h2 (fun a s₁ h₁ => wpAny_bind (wpAny_standAt ?_)) fun _ _ x => x))
  simp only [hplain, hkw, Bool.or_false]
  refine wpAny_bind (wpAny_pure ?_)
  exact wpAny_bind (wpAny_mono h₁ (fun r s₂ hr => wpAny_bind (wpAny_holding (wpAny_point (wpAny_pure hr)))) fun _ _ x => x)
def CallIK (X : Cx) (f : Value) (ks : List Str) (tg : Expr) (r : List V → List V → Hp → (It → Hp → Prop) → Prop) : Prop :=
  ∀ (pins : List (Addr × Obj)) (s : Shared) (σ : St) (H : Hp) (xs zs : List V) (us ws : List Value) (R : It → Hp → Prop), Inv X pins σ H s → Vals xs us → Vals zs ws → r xs zs H R →
    wpAny (model X.prog X.w) X.A (call f us (ks.zip ws)) (fun v s1 => wpAny (model X.prog X.w) X.A (pyIter v) (PIE X pins σ tg R) X.xe s1) X.xe s
def iCK (r : List V → List V → Hp → (It → Hp → Prop) → Prop) (t tk : TA) : TI := fun σ H R => t σ H fun vs H1 => tk σ H1 fun zs H2 => r vs zs H2 R
theorem pi_callK {X : Cx} {x : Str} {T : String} {tg e : Expr} {es : List Expr} {kws : List Keyword} {t tk : TA} {p pos : Pos} {ks : List Str} {r : List V → List V → Hp → (It → Hp → Prop) → Prop} (hc : CallIK X (.type T) ks tg r) (hg : Gl X x) (hm : X.mg x = none) (hv : bootBuiltins x = some (.type T)) (ha : PA X (e :: es) t) (hk : PK X kws tk)
    (he : backTo pos (starEach (e :: es) X.env) = (false, eval e X.env) :: backTo pos (starEach es X.env)) (hpl : (backTo pos (starEach (e :: es) X.env)).any (·.1) = false)
    (hall : (backToKw pos (keywordEach kws X.env)).all (·.1.isSome) = true) (hnone : (backToKw pos (keywordEach kws X.env)).any (·.1.isNone) = false) (hks : (backToKw pos (keywordEach kws X.env)).filterMap (·.1) = ks)
    (hn : x ≠ "__name__" := by decide) (hdb : (x == ("__debug__" : Str)) = false := by decide) :
    PI X tg (.Call (.Name x p) (e :: es) kws pos) (iCK r t tk) := by
  refine ⟨fun pins s σ H R I h => ?_⟩
  refine wpAny_Call_Name_kw (ld_blt I hg hm hv ?_ hn hdb)
  refine callWith_typeK (thn (ha.run pos pins s σ H _ I h) fun us s1 ⟨vs, H1, I1, r1, q1⟩ => thn (hk.run pos pins s1 σ H1 _ I1 q1) fun ws s2 ⟨zs, H2, I2, r2, q2⟩ => ?_) he hpl hall hnone
  rw [hks]
  exact hc pins s2 σ H2 vs zs us ws R I2 r1 r2 q2
def rEnumK (K : PySem.W.Frag) : List V → List V → Hp → (It → Hp → Prop) → Prop := fun vs zs H R => ∃ a xs k, vs = [.ref a] ∧ zs = [.int k] ∧ -(2 ^ 63) ≤ k ∧ k < 2 ^ 63 ∧ SqL K H a xs ∧ R (ItK K k a) H
theorem ci_enumK {X : Cx} {elts : List Expr} {kk : Nat} {tpos : Pos} : CallIK X (.type "enumerate") [Str.ofString "start"] (.Tuple elts kk tpos) (rEnumK X.K) := by
  intro pins s2 σ H2 vs zs us ws R I2 r1 r2 ⟨a, xs, k, e1, e2, hk0, hk1, hq, q⟩
  subst e1 e2
  obtain rfl := Vals.ref1 r1
  cases r2 with
  | cons r3 rr3 =>
  cases rr3
  obtain ⟨tok, rfl⟩ := r3
  obtain ⟨its, rv, p', hz⟩ := I2.list hq
  refine enum_begins_start (begins_list a its.toArray) p'.isList hk0 hk1 fun h' he hit hsz hk' => ?_
  refine wpAny_pyIter_enum he ?_
  have I3 : Inv X pins σ H2 { s2 with heap := h' } := I2.kept (t' := s2.toks) hk'
  have e0 : k + ((0 : Nat) : Int) = k := by omega
  refine ⟨s2.heap.objs.size + 1, [s2.heap.objs.size + 1, s2.heap.objs.size], _, _, H2, rfl, I3, turn_enumK k a (s2.heap.objs.size + 1) s2.heap.objs.size, ⟨⟨.none, by rw [e0]; exact he⟩, ⟨_, hit, rfl, rfl⟩, Nat.succ_ne_self _⟩, fun b hb => ?_, q⟩
  have e' : b = s2.heap.objs.size + 1 ∨ b = s2.heap.objs.size := by simpa using hb
  have hle : s2.heap.objs.size ≤ b := by
    rcases e' with z | z
    · rw [z]; exact Nat.le_add_right _ _
    · rw [z]; exact Nat.le_refl _
  exact I2.fpOk hle (I2.hok.fresh hle)
section
variable {prog : Program} {w : World} {A : Around} {E : Value → Shared → Prop} {s : Shared} {l : Addr} {xs : Array (Int × Tok)} {its : List Value} {ns : List Int}
theorem min_intTup {Q : Value → Shared → Prop} (hh : A.handled = none) (hl : s.heap.IsTuple l (intItems xs)) (hne : 0 < xs.size)
    (h : ∀ v h' tk, (intItems xs)[argBest (fun i j => decide (numAt xs i < numAt xs j)) (xs.size - 1)]? = some v → (∀ b o, s.heap.get? b = some o → h'.get? b = some o) → Q v { s with heap := h', toks := tk }) :
    wpAny (model prog w) A (call (.builtin "min") [.ref l]) Q E s := by
  have hlt : l < s.heap.objs.size := by obtain ⟨_, e, _⟩ := hl; exact Heap.lt_size e
  refine call_min_walk (wpAny_pyIter_tuple hl ?_)
  refine ⟨_, [_, l], [_], _, _, _, _, rfl, Walks.tuple (A := A.in1) hh _ l (Nat.ne_of_lt hlt) (intItems xs), ⟨⟨_, Heap.get?_push_size _ rfl, rfl, rfl⟩, hl.push _⟩, fun c hc => ?_, by simpa [intItems] using hne, CmpOf.ints_lt (numAt xs) (fun _ _ => intItems_at), fun v h' tk hP hk => ?_⟩
  · show c < (s.heap.push _).objs.size
    rw [Heap.size_push]
    rcases List.mem_cons.mp hc with rfl | hc
    · exact Nat.lt_succ_self _
    · rcases List.mem_cons.mp hc with rfl | hc
      · exact Nat.lt_succ_of_lt hlt
      · cases hc
  · refine h v h' tk (by simpa [intItems] using hP) fun c o e => ?_
    refine hk c o (fun hm => ?_) (Heap.get?_push_of_some _ e)
    rcases List.mem_cons.mp hm with e1 | hm
    · exact absurd (e1 ▸ Heap.lt_size e) (Nat.lt_irrefl _)
    · cases hm
theorem min_rawT {Q : Value → Shared → Prop} (hh : A.handled = none) (hl : s.heap.IsTuple l its.toArray) (hi : IntsAre its ns) (hne : 0 < ns.length)
    (h : ∀ h' tk M t', (∀ b o, s.heap.get? b = some o → h'.get? b = some o) → M ∈ ns → (∀ a, a ∈ ns → M ≤ a) → Q (.int M t') { s with heap := h', toks := tk }) : wpAny (model prog w) A (call (.builtin "min") [.ref l]) Q E s := by
  obtain ⟨xs, e⟩ := hi.allInts.items
  have hn : numsOf (intItems xs).toList = ns := by rw [← e]; exact hi.numsOf
  rw [nums_intItems] at hn
  subst hn
  rw [e] at hl
  have hsz : 0 < xs.size := by simpa using hne
  refine min_intTup hh hl hsz fun v h' tk hv hk => ?_
  obtain ⟨t, rfl⟩ := intItems_at hv
  obtain ⟨h1, h2⟩ := argBest_lt (numAt xs) (xs.size - 1)
  refine h h' tk _ t hk ?_ fun a ha => ?_
  · rw [numAt_eq]; exact PySem.getD_mem (by rw [List.length_map, Array.length_toList]; omega)
  · obtain ⟨j, hj, rfl⟩ := mem_getD ha
    rw [List.length_map, Array.length_toList] at hj
    rw [← numAt_eq]; exact h2 j (by omega)
end
def rMinT (K : PySem.W.Frag) : List V → Hp → VK → Prop := fun vs H Q => ∃ (a : Addr) (ns : List Int), vs = [V.ref a] ∧ SqT K H a (ns.map V.int) ∧ 0 < ns.length ∧ ∀ m, m ∈ ns → (∀ y, y ∈ ns → m ≤ y) → Q (.int m) H
theorem cr_minT {X : Cx} (hc : X.calm = true) : CallR X (.builtin "min") (rMinT X.K) := by
  intro pins s σ H vs us Q I r h
  obtain ⟨a, ns, rfl, hs, hne, q⟩ := h
  obtain ⟨its, rv, hl, _⟩ := I.tuple hs
  rw [Vals.ref1 r]
  exact min_rawT (I.ok.hd hc) hl rv.ints hne fun h' tk m t' hk h1 h2 => ⟨.int _, H, I.kept hk, ⟨_, rfl⟩, q m h1 h2⟩
end L2
namespace QV
open PySem L2
def enumF (k : Int) (ds : List D) : List D := (List.range ds.length).zipWith (fun j d => D.nd .tup [.int (k + (j : Nat)), d]) ds
theorem enumF_get {k : Int} {ds : List D} {i : Nat} {d : D} (h : (enumF k ds)[i]? = some d) : ∃ e, ds[i]? = some e ∧ d = .nd .tup [.int (k + (i : Nat)), e] := by
  unfold enumF at h
  rw [List.getElem?_zipWith] at h
  cases e : ds[i]? with
  | none => rw [e] at h; split at h <;> simp_all
  | some y =>
    have hi : i < ds.length := (List.getElem?_eq_some_iff.mp e).1
    rw [e, List.getElem?_range hi] at h
    cases h
    exact ⟨y, rfl, rfl⟩
theorem enumF_len {k : Int} {ds : List D} : (enumF k ds).length = ds.length := by unfold enumF; rw [List.length_zipWith, List.length_range, Nat.min_self]
section
variable {K : PySem.W.Frag} {H : Hp} {ow : Ow}
theorem itd_enumK {k : Int} {a : Addr} {vs : List V} {ds : List D} (h : SqL K (Bs H ow) a vs) (hz : vs.length ≤ sizeLine) (r : Rps K (Bs H ow) vs ds) : ItD K H ow (ItK K k a) (enumF k ds) := by
  have st : ∀ {H' : Hp} {ow' : Ow}, Fs H ow H' ow' → SqL K H' a vs := fun x => ((bs_same _ _).seq (x.bs.seq h))
  refine ⟨fun i d H' ow' x e => ?_, fun i d H' ow' y H2 x e q => ?_, fun H' ow' x => ⟨vs, st x, by rw [enumF_len]; exact Nat.le_of_eq r.len⟩, by rw [enumF_len, ← r.len]; exact hz⟩
  · obtain ⟨e', e1, _⟩ := enumF_get e
    obtain ⟨v, e2, _⟩ := r.get e1
    exact ⟨vs, v, st x, e2⟩
  · obtain ⟨Tt, v, rfl, hn, rfl, hy⟩ := q
    obtain ⟨e', e1, rfl⟩ := enumF_get e
    obtain ⟨w, e2, r1⟩ := r.get e1
    have ev := hy vs (st x)
    rw [e2] at ev
    cases ev
    have y : Ext H' ow' (upd H' Tt (.tup [.int (k + (i : Nat)), v])) (Ow.put ow' Tt .base) := Ext.new hn
    refine ⟨_, y, .tup ?_ (by show 2 ≤ sizeLine; decide) (.cons (.int _) (.cons (r1.mono ?_) .nil))⟩
    · rw [bs_of put_same, upd_same]
    · intro b o eb
      exact (y.stp (M := []) (n := 0)).bs b o (x.bs b o eb)
end
section
variable {X : Cx} {W : WX} {M : List Nat} {e : Expr} {q : SemE} {pos p : Pos}
theorem i_enumK {elts : List Expr} {kk : Nat} {tpos p2 p3 : Pos} {k : Int} {j : Nat} (hg : Gl X "enumerate") (hm : X.mg "enumerate" = none) (h : QE X W M e q) (hk0 : -(2 ^ 63) ≤ k := by decide) (hk1 : k < 2 ^ 63 := by decide) (hs : starEach [e] X.env = [(false, eval e X.env)] := by rfl)
    (he : backTo pos (starEach [e] X.env) = (false, eval e X.env) :: backTo pos (starEach [] X.env) := by rfl) (hpl : (backTo pos (starEach [e] X.env)).any (·.1) = false := by rfl)
    (hall : (backToKw pos (keywordEach [⟨some "start", .Constant (.int k) j p2, p3⟩] X.env)).all (·.1.isSome) = true := by rfl) (hnone : (backToKw pos (keywordEach [⟨some "start", .Constant (.int k) j p2, p3⟩] X.env)).any (·.1.isNone) = false := by rfl) (hks : (backToKw pos (keywordEach [⟨some "start", .Constant (.int k) j p2, p3⟩] X.env)).filterMap (·.1) = [Str.ofString "start"] := by rfl) :
    QI X W M (.Tuple elts kk tpos) (.Call (.Name "enumerate" p) [e] [⟨some "start", .Constant (.int k) j p2, p3⟩] pos) (iSeq q (enumF k)) :=
  ⟨PI_imp (pi_callK ci_enumK hg hm PyProof.Rows.boot_enumerate (pa_cons h.run pa_nil hs) (pk_cons pe_int pk_nil) he hpl hall hnone hks) fun σ H R ⟨n, ow, env, Q, E, s, hq, kq, x⟩ => ⟨n, ow, env, _, E, s, hq, fun v t H' ow' env' y s' o r z => by
    split at z
    · obtain ⟨a, vs, rfl, c, hz, r⟩ := fz_lst r
      exact ⟨a, vs, k, rfl, rfl, hk0, hk1, (bs_same _ _).seq c, kq _ _ H' ow' env' y s' o (itd_enumK c hz r) z⟩
    · exact z.elim, x⟩⟩
end
section
variable {K : PySem.W.Frag}
def minTG (t : T) (Q : T → Prop) : Prop := ∃ ns : List Int, t = .fz (.nd .tup (ns.map .int)) ∧ 0 < ns.length ∧ ∀ m, m ∈ ns → (∀ y, y ∈ ns → m ≤ y) → Q (.fz (.int m))
theorem g_minT : Op1 K (fun x H Q => rMinT K [x] H Q) minTG := by
  intro H ow n x t Q Qv rx ⟨ns, e, h0, h⟩ k
  subst e
  obtain ⟨a, vs, rfl, c, z, r⟩ := rx.tup rfl
  have := ints_of r
  subst this
  exact ⟨a, ns, rfl, c, h0, fun m h1 h2 => k _ _ H ow Stp.refl (Tq.fz_.mpr (.int _)) (h m h1 h2)⟩
end
end QV

set_option Elab.async false
set_option linter.all false
set_option maxRecDepth 100000
set_option maxHeartbeats 2000000
namespace QV
open PySem L2

def T.kids : T → Option (Kd × List T)
  | .ow k ds => some (k, ds.map .fz)
  | .nd k ts => some (k, ts)
  | .fz _ => none
mutual
def T.put : T → List Nat → T → T
  | _, [], u => u
  | .nd k ts, j :: p, u => .nd k (Tput ts j p u)
  | t, _ :: _, _ => t
def Tput : List T → Nat → List Nat → T → List T
  | [], _, _, _ => []
  | t :: ts, 0, p, u => T.put t p u :: ts
  | t :: ts, j + 1, p, u => t :: Tput ts j p u
end
theorem put_nil {t u : T} : T.put t [] u = u := by cases t <;> rfl
theorem put_cons {k : Kd} {ts : List T} {j : Nat} {p : List Nat} {u : T} : T.put (.nd k ts) (j :: p) u = .nd k (Tput ts j p u) := rfl
theorem Tput_zero {t : T} {ts : List T} {p : List Nat} {u : T} : Tput (t :: ts) 0 p u = T.put t p u :: ts := rfl
theorem Tput_succ {t : T} {ts : List T} {j : Nat} {p : List Nat} {u : T} : Tput (t :: ts) (j + 1) p u = t :: Tput ts j p u := rfl
theorem Tput_set {p : List Nat} {u t : T} : ∀ {ts : List T} {j : Nat}, ts[j]? = some t → Tput ts j p u = ts.set j (T.put t p u)
  | [], j, h => by simp at h
  | t' :: ts, 0, h => by simp at h; subst h; rfl
  | t' :: ts, j + 1, h => by rw [Tput_succ, List.set_cons_succ, Tput_set (by simpa using h)]
theorem put_one {k : Kd} {ts : List T} {j : Nat} {t u : T} (h : ts[j]? = some t) : T.put (.nd k ts) ([] ++ [j]) u = .nd k (ts.set j u) := by
  show T.nd k (Tput ts j [] u) = _
  rw [Tput_set h, put_nil]
section
variable {K : PySem.W.Frag} {H H' : Hp} {ow ow' : Ow} {l : Lab}
theorem tps_fz : ∀ {vs : List V} {ds : List D}, Rps K (Bs H ow) vs ds → ∃ S, Tps K H ow l vs (ds.map .fz) S ∧ ∀ b, ¬ S b
  | _, _, .nil => ⟨_, .nil, fun _ h => h⟩
  | _, _, .cons r s => by
    obtain ⟨S, h1, h2⟩ := tps_fz s
    exact ⟨_, .cons (.fz r) h1 fun _ h => h.elim, fun b h => h.elim id (h2 b)⟩
theorem tps_data : ∀ {vs : List V} {ds : List D} {S : Addr → Prop}, Tps K H ow l vs (ds.map .fz) S → Rps K (Bs H ow) vs ds ∧ ∀ b, ¬ S b
  | _, [], _, .nil => ⟨.nil, fun _ h => h⟩
  | _, d :: ds, _, .cons r s _ => by
    cases r with
    | fz r =>
      obtain ⟨h1, h2⟩ := tps_data s
      exact ⟨.cons r h1, fun b h => h.elim id (h2 b)⟩
theorem Tp.kid {v : V} {t : T} {St : Addr → Prop} {k : Kd} {ts : List T} (h : Tp K H ow l v t St) (e : t.kids = some (k, ts)) : ∃ a dx vs S, v = .ref a ∧ Cell H a dx k vs ∧ (∀ b, Foot a dx k b → ow b = l ∧ ¬ S b) ∧ Tps K H ow l vs ts S ∧ ∀ b, St b ↔ (Foot a dx k b ∨ S b) := by
  cases h with
  | fz _ => cases e
  | ow c f r =>
    cases e
    obtain ⟨S, h1, h2⟩ := tps_fz (l := l) r
    exact ⟨_, _, _, S, rfl, c, fun b fb => ⟨f b fb, h2 b⟩, h1, fun b => ⟨.inl, fun z => z.elim id fun z => (h2 b z).elim⟩⟩
  | nd c f r =>
    cases e
    exact ⟨_, _, _, _, rfl, c, f, r, fun b => .rfl⟩
theorem set_self {α : Type} : ∀ {l : List α} {j : Nat} {a : α}, l[j]? = some a → l.set j a = l
  | [], _, _, h => by simp at h
  | x :: l, 0, a, h => by simp at h; subst h; rfl
  | x :: l, j + 1, a, h => by rw [List.set_cons_succ, set_self (by simpa using h)]
theorem Tps.put : ∀ {vs : List V} {ts : List T} {S : Addr → Prop} {j : Nat} {v1 : V} {t1 : T}, Tps K H ow l vs ts S → vs[j]? = some v1 → ts[j]? = some t1 → ∃ S1, Tp K H ow l v1 t1 S1 ∧ (∀ b, S1 b → S b) ∧
    ∀ (H' : Hp) (ow' : Ow) (v2 : V) (t2 : T) (S2 : Addr → Prop), Same (Bs H ow) (Bs H' ow') → (∀ b o, S b → ¬ S1 b → H b = some o → ow b = l → H' b = some o ∧ ow' b = l) → Tp K H' ow' l v2 t2 S2 → (∀ b, S2 b → S b → S1 b) →
      ∃ S', Tps K H' ow' l (vs.set j v2) (ts.set j t2) S' ∧ ∀ b, S' b → (S b ∧ ¬ S1 b) ∨ S2 b
  | _, _, _, _, _, _, .nil, e, _ => by simp at e
  | _, _, _, 0, v1, t1, .cons (S1 := Sa) (S2 := Sb) r s d, e, e' => by
    simp at e e'
    subst e e'
    refine ⟨Sa, r, fun b h => .inl h, fun H' ow' v2 t2 S2 bs fr r2 ds => ?_⟩
    have s' := s.car (l' := l) bs fun b o hb e1 e2 => fr b o (.inr hb) (fun z => d b z hb) e1 e2
    exact ⟨_, .cons r2 s' fun b h2 hb => d b (ds b h2 (.inr hb)) hb, fun b h => h.elim .inr fun hb => .inl ⟨.inr hb, fun z => d b z hb⟩⟩
  | _, _, _, j + 1, v1, t1, .cons (S1 := Sa) (S2 := Sb) r s d, e, e' => by
    obtain ⟨S1, r1, sub, go⟩ := Tps.put (j := j) s (by simpa using e) (by simpa using e')
    refine ⟨S1, r1, fun b h => .inr (sub b h), fun H' ow' v2 t2 S2 bs fr r2 ds => ?_⟩
    obtain ⟨S', h1, h2⟩ := go H' ow' v2 t2 S2 bs (fun b o hb n e1 e2 => fr b o (.inr hb) n e1 e2) r2 fun b hb hs => ds b hb (.inr hs)
    have r' := r.car (l' := l) bs fun b o hb e1 e2 => fr b o (.inl hb) (fun z => d b hb (sub b z)) e1 e2
    refine ⟨_, .cons r' h1 fun b ha hb => ?_, fun b h => ?_⟩
    · rcases h2 b hb with z | z
      · exact d b ha z.1
      · exact d b ha (sub b (ds b z (.inl ha)))
    · rcases h with z | z
      · exact .inl ⟨.inl z, fun y => d b z (sub b y)⟩
      · rcases h2 b z with y | y
        · exact .inl ⟨.inr y.1, y.2⟩
        · exact .inr y
theorem Sub.put {v0 v : V} {t0 t : T} {pt : List Nat} (s : Sub K H ow l v0 t0 pt v t) : ∀ {S0 : Addr → Prop}, Tp K H ow l v0 t0 S0 → ∃ St, Tp K H ow l v t St ∧ (∀ b, St b → S0 b) ∧
    ∀ (H' : Hp) (ow' : Ow) (t' : T) (S2 : Addr → Prop), Same (Bs H ow) (Bs H' ow') → (∀ b o, S0 b → ¬ St b → H b = some o → ow b = l → H' b = some o ∧ ow' b = l) → Tp K H' ow' l v t' S2 → (∀ b, S2 b → S0 b → St b) →
      ∃ S', Tp K H' ow' l v0 (t0.put pt t') S' ∧ ∀ b, S' b → (S0 b ∧ ¬ St b) ∨ S2 b := by
  induction s with
  | nil =>
    intro S0 r
    refine ⟨S0, r, fun _ h => h, fun H' ow' t' S2 bs fr r2 ds => ⟨S2, ?_, fun b h => .inr h⟩⟩
    rw [put_nil]
    exact r2
  | @cons a dx k vs ts j p v1 v t1 t c f e1 e2 _ ih =>
    intro S0 r
    cases r with
    | @nd a dx' k vs' ts S c' f' r' =>
      have e := c'.inj c
      subst e
      obtain ⟨S1, r1, sub, go⟩ := r'.put e1 e2
      obtain ⟨St, rt, sub2, go2⟩ := ih r1
      refine ⟨St, rt, fun b h => .inr (sub b (sub2 b h)), fun H' ow' t' S2 bs fr r2 ds => ?_⟩
      obtain ⟨S3, r3, h3⟩ := go2 H' ow' t' S2 bs (fun b o hb n q1 q2 => fr b o (.inr (sub b hb)) n q1 q2) r2 fun b hb hs => ds b hb (.inr (sub b hs))
      obtain ⟨S4, r4, h4⟩ := go H' ow' v1 (T.put t1 p t') S3 bs (fun b o hb n q1 q2 => fr b o (.inr hb) (fun z => n (sub2 b z)) q1 q2) r3 fun b hb hs => by
        rcases h3 b hb with z | z
        · exact z.1
        · exact sub2 b (ds b z (.inr hs))
      rw [set_self e1] at r4
      have nS : ∀ b, Foot a dx' k b → ¬ St b := fun b fb z => (f' b fb).2 (sub b (sub2 b z))
      have cc : Cell H' a dx' k vs' := c'.at_same fun b o fb q => (fr b o (.inl fb) (nS b fb) q (f' b fb).1).1
      refine ⟨fun b => Foot a dx' k b ∨ S4 b, ?_, ?_⟩
      · rw [put_cons, Tput_set e2]
        refine .nd cc (fun b fb => ⟨?_, fun z => ?_⟩) r4
        · obtain ⟨o, q⟩ := c'.there fb
          exact (fr b o (.inl fb) (nS b fb) q (f' b fb).1).2
        · rcases h4 b z with y | y
          · exact (f' b fb).2 y.1
          · rcases h3 b y with w | w
            · exact (f' b fb).2 (sub b w.1)
            · exact nS b fb (ds b w (.inl fb))
      · intro b h
        rcases h with z | z
        · exact .inl ⟨.inl z, nS b z⟩
        · rcases h4 b z with y | y
          · exact .inl ⟨.inr y.1, fun w => y.2 (sub2 b w)⟩
          · rcases h3 b y with w | w
            · exact .inl ⟨.inr (sub b w.1), w.2⟩
            · exact .inr w
theorem Sub.snoc {v0 : V} {t0 : T} {pt : List Nat} {a dx : Addr} {k : Kd} {vs : List V} {ts : List T} {j : Nat} {v1 : V} {t1 : T} (s : Sub K H ow l v0 t0 pt (.ref a) (.nd k ts)) (c : Cell H a dx k vs) (f : ∀ b, Foot a dx k b → ow b = l) (e1 : vs[j]? = some v1) (e2 : ts[j]? = some t1) : Sub K H ow l v0 t0 (pt ++ [j]) v1 t1 := by
  generalize hv : V.ref a = v at s
  generalize ht : T.nd k ts = t at s
  induction s with
  | nil => subst hv ht; exact .cons c f e1 e2 .nil
  | cons c' f' g1 g2 _ ih => exact .cons c' f' g1 g2 (ih hv ht)
theorem put_run {σ : L2.St} {env : Env} {i m : Nat} {v0 : V} {t0 t : T} {pt : List Nat} {v : V} {k : Kd} {ts : List T} (s : StOk K H ow σ env) (e1 : σ[i]? = some (some v0)) (e2 : env[i]? = some (some t0)) (sb : Sub K H ow (.sl i) v0 t0 pt v t) (hk : t.kids = some (k, ts)) :
    ∃ a dx vs S, v = .ref a ∧ Cell H a dx k vs ∧ Tps K H ow (.sl i) vs ts S ∧ ∀ o : HO, Same (Bs H ow) (Bs (upd H a o) (Ow.mv ow (.tm m) (.sl i))) ∧ Tps K (upd H a o) (Ow.mv ow (.tm m) (.sl i)) (.sl i) vs ts S ∧
      (∀ w u, Tq K H ow (.tm m) w u → ∃ Sw, Tp K (upd H a o) (Ow.mv ow (.tm m) (.sl i)) (.sl i) w u Sw ∧ ∀ b, Sw b → ¬ S b ∧ ¬ Foot a dx k b ∧ ow b = .tm m) ∧
      (∀ b, Foot a dx k b → Ow.mv ow (.tm m) (.sl i) b = .sl i ∧ ¬ S b) ∧
      ∀ (t' : T) (S' : Addr → Prop), Tp K (upd H a o) (Ow.mv ow (.tm m) (.sl i)) (.sl i) (.ref a) t' S' → (∀ b, S' b → Foot a dx k b ∨ S b ∨ ow b = .tm m) →
        Stp [i] m H ow (upd H a o) (Ow.mv ow (.tm m) (.sl i)) ∧ StOk K (upd H a o) (Ow.mv ow (.tm m) (.sl i)) σ (env.set i (some (t0.put pt t'))) ∧ Out [i] env (env.set i (some (t0.put pt t'))) := by
  obtain ⟨w0, q1, S0, r0⟩ := s.at_ i t0 e2
  rw [e1] at q1
  cases q1
  obtain ⟨St, rt, sub, go⟩ := sb.put r0
  obtain ⟨a, dx, vs, S, rfl, c, f, r, hS⟩ := rt.kid hk
  refine ⟨a, dx, vs, S, rfl, c, r, fun o => ?_⟩
  have oa : ow a = .sl i := (f a foot_a).1
  have ne : ∀ {b : Addr}, ow b ≠ .sl i → b ≠ a := fun h z => h (by rw [z]; exact oa)
  have mvS : ∀ {b : Addr}, ow b = .sl i → Ow.mv ow (.tm m) (.sl i) b = .sl i := fun {b} h => by
    rw [mv_ne (by rw [h]; exact fun z => nomatch z)]; exact h
  have bs : Same (Bs H ow) (Bs (upd H a o) (Ow.mv ow (.tm m) (.sl i))) := fun b x e => by
    obtain ⟨g1, g2⟩ := bs_some e
    have g3 : Ow.mv ow (.tm m) (.sl i) b = .base := by rw [mv_ne (by rw [g1]; exact fun z => nomatch z)]; exact g1
    rw [bs_of g3, upd_ne (ne (by rw [g1]; exact fun z => nomatch z))]
    exact g2
  have keep : ∀ b x, b ≠ a → H b = some x → ow b = .sl i → upd H a o b = some x ∧ Ow.mv ow (.tm m) (.sl i) b = .sl i := fun b x hb g1 g2 => ⟨by rw [upd_ne hb]; exact g1, mvS g2⟩
  have lab0 : ∀ b, S0 b → ow b = .sl i := fun b h => (r0.there b h).1
  refine ⟨bs, r.car bs fun b x hb g1 g2 => keep b x (fun z => (f a foot_a).2 (z ▸ hb)) g1 g2, fun w u ⟨Sw, hw⟩ => ⟨Sw, hw.car bs fun b x _ g1 g2 => ⟨by rw [upd_ne (ne (by rw [g2]; exact fun z => nomatch z))]; exact g1, mv_eq g2⟩, fun b hb => ?_⟩, fun b fb => ⟨mvS (f b fb).1, (f b fb).2⟩, fun t' S' r' hS' => ?_⟩
  · have lb := (hw.there b hb).1
    refine ⟨fun z => ?_, fun z => ?_, lb⟩
    · have := lab0 b (sub b ((hS b).mpr (.inr z)))
      rw [lb] at this
      cases this
    · have := (f b z).1
      rw [lb] at this
      cases this
  · have stp : Stp [i] m H ow (upd H a o) (Ow.mv ow (.tm m) (.sl i)) := fun b x g1 g2 => by
      have nsl : ow b ≠ .sl i := fun z => by rw [z] at g2; exact g2 (by simp)
      have ntm : ow b ≠ .tm m := fun z => by rw [z] at g2; exact absurd g2 (Nat.lt_irrefl m)
      exact ⟨by rw [upd_ne (ne nsl)]; exact g1, mv_ne ntm⟩
    obtain ⟨S4, r4, _⟩ := go (upd H a o) (Ow.mv ow (.tm m) (.sl i)) t' S' bs (fun b x hb n g1 g2 => keep b x (fun z => n ((hS b).mpr (.inl (z ▸ foot_a)))) g1 g2) r' fun b hb h0 => by
      rcases hS' b hb with z | z | z
      · exact (hS b).mpr (.inl z)
      · exact (hS b).mpr (.inr z)
      · have := lab0 b h0
        rw [z] at this
        cases this
    refine ⟨stp, s.stp stp Out.set1 fun j x hj e => ?_, Out.set1⟩
    have ej : j = i := by simpa using hj
    subst ej
    rw [List.getElem?_set_self (List.getElem?_eq_some_iff.mp e2).1] at e
    cases e
    exact ⟨v0, e1, _, r4⟩
end
end QV

set_option Elab.async false
set_option linter.all false
set_option maxRecDepth 100000
set_option maxHeartbeats 2000000
namespace QV
open PySem L2

def ixP (t u : T) (pt : List Nat) (Q : T → List Nat → Prop) : Prop := match u with
  | .fz (.int i) => match t with
    | .nd .lst ts => ∃ j, ixN ts.length i = some j ∧ ∃ t', ts[j]? = some t' ∧ Q t' (pt ++ [j])
    | .nd .tup ts => ∃ j, ixN ts.length i = some j ∧ ∃ t', ts[j]? = some t' ∧ Q t' (pt ++ [j])
    | .fz (.nd .lst ds) => ∃ d, atI ds i = some d ∧ Q (.fz d) []
    | .ow .lst ds => ∃ d, atI ds i = some d ∧ Q (.fz d) []
    | .fz (.nd .tup ds) => ∃ d, atI ds i = some d ∧ Q (.fz d) []
    | .ow .tup ds => ∃ d, atI ds i = some d ∧ Q (.fz d) []
    | _ => False
  | _ => False
def sPix (pa pb : SemP) : SemP := fun env Q E => pa env (fun t pt env1 => pb env1 (fun u _ env2 => ixP t u pt fun t' pt' => Q t' pt' env2) E) E
section
variable {K : PySem.W.Frag} {H : Hp} {ow : Ow} {σ : L2.St} {env : Env} {n : Nat} {root : Option Nat}
theorem Sub.cell {l : Lab} {v0 v : V} {t0 t : T} {pt : List Nat} {k : Kd} {ts : List T} (sb : Sub K H ow l v0 t0 pt v t) (r : Tq K H ow l v0 t0) (e : t.kids = some (k, ts)) : ∃ a dx vs S, v = .ref a ∧ Cell H a dx k vs ∧ (∀ b, Foot a dx k b → ow b = l ∧ ¬ S b) ∧ Tps K H ow l vs ts S := by
  obtain ⟨S, h⟩ := sb.tq r
  obtain ⟨a, dx, vs, S', h1, h2, h3, h4, _⟩ := h.kid e
  exact ⟨a, dx, vs, S', h1, h2, h3, h4⟩
theorem Plc.kid {v : V} {k : Kd} {ts : List T} {pt : List Nat} (s : StOk K H ow σ env) (h : Plc K H ow σ env n root v (.nd k ts) pt) : ∃ a dx vs, v = .ref a ∧ Cell H a dx k vs ∧ vs.length = ts.length ∧ ∀ j w t', vs[j]? = some w → ts[j]? = some t' → Plc K H ow σ env n root w t' (pt ++ [j]) := by
  rcases h with ⟨d, e, _⟩ | ⟨e, r⟩ | ⟨i, v0, t0, rfl, e1, e2, sb⟩
  · cases e
  · obtain ⟨a, dx, vs, S, h1, h2, h3, h4⟩ := Sub.cell (.nil) r (k := k) (ts := ts) rfl
    exact ⟨a, dx, vs, h1, h2, h4.len, fun j w t' g1 g2 => .inr (.inl ⟨e, let ⟨S', q⟩ := h4.get g1 g2; ⟨S', q⟩⟩)⟩
  · obtain ⟨w0, q1, r0⟩ := s.at_ i t0 e2
    rw [e1] at q1
    cases q1
    obtain ⟨a, dx, vs, S, h1, h2, h3, h4⟩ := sb.cell r0 (k := k) (ts := ts) rfl
    subst h1
    exact ⟨a, dx, vs, rfl, h2, h4.len, fun j w t' g1 g2 => .inr (.inr ⟨i, v0, t0, rfl, e1, e2, sb.snoc h2 (fun b fb => (h3 b fb).1) g1 g2⟩)⟩
theorem ixN_lt {m : Nat} {i : Int} {j : Nat} (h : ixN m i = some j) : j < m := by
  unfold ixN at h
  split at h
  · split at h
    · cases h; omega
    · cases h
  · split at h
    · cases h; omega
    · cases h
theorem atI_of {α : Type} {l : List α} {i : Int} {j : Nat} (h : ixN l.length i = some j) : atI l i = l[j]? := by unfold atI; rw [h]; rfl
theorem plc_fz {v : V} {d : D} {pt : List Nat} (r : Rp K (Bs H ow) v d) : Plc K H ow σ env n root v (.fz d) pt := .inl ⟨d, rfl, r⟩
end
section
variable {X : Cx} {W : WX} {M Ma Mb IO : List Nat} {e a b : Expr} {pa pb : SemP} {q : SemE} {ra rb root : Option Nat} {pos : Pos}
theorem p_ix (ha : QP X W Ma ra a pa) (hb : QP X W Mb rb b pb) (hs : PlainIx b := by exact fun _ _ => rfl) (hr : okR ra Mb = true := by decide) : QP X W (Ma ++ Mb) ra (.Subscript a b pos) (sPix pa pb) :=
  ⟨PE_imp (pe_ix ix_seq ha.run hb.run hs) fun σ H Qv ⟨n, ow, env, Q, E, s, hq, k, x⟩ => ⟨n, ow, env, _, E, s, hq, fun v t pt H1 ow1 env1 y1 s1 o1 r1 q1 =>
    ⟨n + 1, ow1, env1, _, E, s1, q1, fun w u pu H2 ow2 env2 y2 s2 o2 r2 q2 => by
      have P := r1.stp y2 o2 hr (Nat.lt_succ_self _)
      have y12 := y1.trans y2 subl subr (Nat.le_refl _) (Nat.le_succ _) (M := Ma ++ Mb)
      have o12 := o1.trans o2 subl subr (M := Ma ++ Mb)
      have fin : ∀ {v' : V} {t' : T} {pt' : List Nat}, Plc X.K H2 ow2 σ env2 n ra v' t' pt' → Q t' pt' env2 → Qv v' H2 := fun p z => k _ _ _ H2 ow2 env2 y12 s2 o12 p z
      have ei : ∀ {i : Int}, u = .fz (.int i) → w = .int i := fun e => by subst e; exact (r2.ro s2).int
      have lst : ∀ {i : Int} {ds : List D}, w = .int i → shL t = some ds → (∃ d, atI ds i = some d ∧ Q (.fz d) [] env2) → rIx X.K v w H2 Qv := fun {i ds} e1 e hd => by
        obtain ⟨d, hd, z⟩ := hd
        obtain ⟨a, vs, rfl, h1, z1, rr⟩ := (P.ro s2).lst e
        obtain ⟨x', e2, r3⟩ := rr.atI hd
        exact .inl ⟨a, vs, i, x', rfl, e1, .inl (.inl h1), e2, fin (plc_fz r3) z⟩
      have tup : ∀ {i : Int} {ds : List D}, w = .int i → shT t = some ds → (∃ d, atI ds i = some d ∧ Q (.fz d) [] env2) → rIx X.K v w H2 Qv := fun {i ds} e1 e hd => by
        obtain ⟨d, hd, z⟩ := hd
        obtain ⟨a, vs, rfl, h1, z1, rr⟩ := (P.ro s2).tup e
        obtain ⟨x', e2, r3⟩ := rr.atI hd
        exact .inr (.inl ⟨a, vs, i, x', rfl, e1, h1, e2, fin (plc_fz r3) z⟩)
      unfold ixP at q2
      split at q2
      · have e1 := ei rfl
        split at q2
        · obtain ⟨j, hj, t', ht, z⟩ := q2
          obtain ⟨a, dx, vs, rfl, c, l, kid⟩ := P.kid s2
          have hv : j < vs.length := by rw [l]; exact ixN_lt hj
          exact .inl ⟨a, vs, _, vs[j], rfl, e1, .inl (.inl c.at_), by rw [atI_of (by rw [l]; exact hj)]; simp [hv], fin (kid j _ _ (by simp [hv]) ht) z⟩
        · obtain ⟨j, hj, t', ht, z⟩ := q2
          obtain ⟨a, dx, vs, rfl, c, l, kid⟩ := P.kid s2
          have hv : j < vs.length := by rw [l]; exact ixN_lt hj
          exact .inr (.inl ⟨a, vs, _, vs[j], rfl, e1, sqT_of c.at_, by rw [atI_of (by rw [l]; exact hj)]; simp [hv], fin (kid j _ _ (by simp [hv]) ht) z⟩)
        · exact lst e1 rfl q2
        · exact lst e1 rfl q2
        · exact tup e1 rfl q2
        · exact tup e1 rfl q2
        · exact q2.elim
      · exact q2.elim, x.step y1 o1 subl subr (Nat.le_refl _) (Nat.le_succ _)⟩, fun r d H' ow' env' y s' o => x r d H' ow' env' (y.mono subl (Nat.le_refl _)) s' (o.mono subl)⟩⟩
end
def isL : T → Bool
  | .ow .lst _ => true
  | .nd .lst _ => true
  | _ => false
def appP (t u : T) (Q : T → T → Prop) : Prop := match t with
  | .ow .lst ds => match u with
    | .fz d => ds.length < sizeLine ∧ Q (.fz .non) (.ow .lst (ds ++ [d]))
    | u => ds.length < sizeLine ∧ Q (.fz .non) (.nd .lst (ds.map .fz ++ [u]))
  | .nd .lst ts => ts.length < sizeLine ∧ Q (.fz .non) (.nd .lst (ts ++ [u]))
  | _ => False
theorem isL_kids {t : T} (h : isL t = true) : ∃ ts, t.kids = some (.lst, ts) := by
  unfold isL at h
  split at h
  · exact ⟨_, rfl⟩
  · exact ⟨_, rfl⟩
  · cases h
section
variable {K : PySem.W.Frag} {H : Hp} {ow : Ow} {l : Lab}
theorem Tps.snoc : ∀ {vs : List V} {ts : List T} {S S1 : Addr → Prop} {w : V} {u : T}, Tps K H ow l vs ts S → Tp K H ow l w u S1 → (∀ b, S1 b → ¬ S b) → ∃ S', Tps K H ow l (vs ++ [w]) (ts ++ [u]) S' ∧ ∀ b, S' b → S b ∨ S1 b
  | _, _, _, _, _, _, .nil, r, _ => ⟨_, .cons r .nil (fun _ _ h => h), fun b h => h.elim .inr (fun h => .inl h)⟩
  | _, _, _, _, _, _, .cons (S1 := Sa) (S2 := Sb) r s d, r1, h => by
    obtain ⟨S', h1, h2⟩ := Tps.snoc s r1 fun b hb z => h b hb (.inr z)
    refine ⟨_, .cons r h1 fun b ha hb => ?_, fun b hb => ?_⟩
    · rcases h2 b hb with z | z
      · exact d b ha z
      · exact h b z (.inl ha)
    · rcases hb with z | z
      · exact .inl (.inl z)
      · rcases h2 b z with y | y
        · exact .inl (.inr y)
        · exact .inr y
theorem Tp.flat {a dx : Addr} {k : Kd} {vs : List V} {ds : List D} {S : Addr → Prop} (c : Cell H a dx k vs) (f : ∀ b, Foot a dx k b → ow b = l) (r : Tps K H ow l vs (ds.map .fz) S) : Tp K H ow l (.ref a) (.ow k ds) (Foot a dx k) := .ow c f (tps_data r).1
end
def sAppP (i : Nat) (pa : SemP) (q : SemE) : SemE := fun env Q E => pa env (fun t pt env1 => isL t = true ∧ q env1 (fun u env2 => match env2[i]? with
  | some (some t0) => appP t u fun w t' => Q w (env2.set i (some (t0.put pt t')))
  | _ => False) E) E
section
variable {X : Cx} {W : WX} {M Ma Mb IO : List Nat} {e a b o ix : Expr} {pa pb : SemP} {q qi : SemE} {ra rb root : Option Nat} {pos : Pos}
theorem okR_some {i : Nat} {M : List Nat} (h : okR (some i) M = true) : i ∉ M := of_decide_eq_true h
theorem Plc.own {K : PySem.W.Frag} {H : Hp} {ow : Ow} {σ : L2.St} {env : Env} {n i : Nat} {v : V} {t : T} {pt : List Nat} {k : Kd} {ts : List T} (h : Plc K H ow σ env n (some i) v t pt) (e : t.kids = some (k, ts)) : ∃ v0 t0, σ[i]? = some (some v0) ∧ env[i]? = some (some t0) ∧ Sub K H ow (.sl i) v0 t0 pt v t := by
  rcases h with ⟨d, rfl, _⟩ | ⟨z, _⟩ | ⟨i', v0, t0, z, e1, e2, sb⟩
  · cases e
  · cases z
  · cases z
    exact ⟨v0, t0, e1, e2, sb⟩
theorem q_appP (i : Nat) {apos cpos : Pos} (ho : QP X W Ma (some i) o pa) (he : QE X W Mb e q) (hr : okR (some i) Mb = true := by decide)
    (hbase : attributeBase o "append" X.env (eval o X.env) = eval o X.env := by rfl)
    (hfew : ((backTo cpos (starEach [e] X.env)).all (fun x => !x.1) && (backToKw cpos (keywordEach [] X.env)).all (fun x => x.1.isSome)
      && decide (([e] : List Expr).length + ([] : List Keyword).length + (if ([] : List Keyword).isEmpty then 0 else 1) < 30)) = true := by rfl)
    (hline : (apos.endLine == cpos.line) = true := by rfl) (hs : starEach [e] X.env = (false, eval e X.env) :: starEach [] X.env := by rfl) (hplain : (backTo cpos (starEach [] X.env)).any (·.1) = false := by rfl) :
    QE X W (Ma ++ (Mb ++ [i])) (.Call (.Attribute o "append" apos) [e] [] cpos) (sAppP i pa q) :=
  ⟨PE_imp (pe_bm PySem.F.plainAttrs_list PySem.F.slot_list_append PySem.F.type_list_append mt_append ho.run (pa_cons he.run pa_nil hs) hbase hfew hline hs hplain) fun σ H Qv ⟨n, ow, env, Q, E, s, hq, k, x⟩ => ⟨n, ow, env, _, E, s, hq, fun v t pt H1 ow1 env1 y1 s1 o1 r1 ⟨hk, q1⟩ => by
    obtain ⟨ts, ek⟩ := isL_kids hk
    obtain ⟨v0, t0, e1, e2, sb⟩ := r1.own ek
    obtain ⟨w0, g1, g2⟩ := s1.at_ i t0 e2
    rw [e1] at g1
    cases g1
    obtain ⟨a, dx, vs, S, ev, c, _, _⟩ := sb.cell g2 ek
    subst ev
    refine ⟨.inl ⟨rfl, vs, .inl (.inl c.at_)⟩, n + 1, ow1, env1, _, E, s1, q1, fun w u H2 ow2 env2 y2 s2 o2 r2 q2 => ?_, x.step y1 o1 subl (fun i h => subr i (subl i h)) (Nat.le_refl _) (Nat.le_succ _)⟩
    have hi := okR_some hr
    have e2' : env2[i]? = some (some t0) := (o2.eq i hi).trans e2
    have sb' : Sub X.K H2 ow2 (.sl i) v0 t0 pt (.ref a) t := sb.car (y2.car (l := .sl i) hi)
    split at q2
    · rename_i t0' e3
      rw [e2'] at e3
      cases e3
      obtain ⟨a', dx', us, S', ea, c', rr, go⟩ := put_run (m := n + 1) s2 e1 e2' sb' ek
      cases ea
      obtain ⟨Bs', rS, rW, rF, fin⟩ := go (.lst (us ++ [w]))
      obtain ⟨Sw, rw', dw⟩ := rW w u r2
      obtain ⟨S3, r3, h3⟩ := Tps.snoc rS rw' fun b hb => (dw b hb).1
      have y12 : Stp (Ma ++ (Mb ++ [i])) n H1 ow1 H2 ow2 := y2.mono (fun i h => subr i (subl i h)) (Nat.le_succ _)
      have lu := rr.len
      -- what is left: the new tree
      have key : ∀ {t' : T}, us.length < sizeLine → (∃ S4, Tp X.K (upd H2 a (.lst (us ++ [w]))) (Ow.mv ow2 (.tm (n + 1)) (.sl i)) (.sl i) (.ref a) t' S4 ∧ ∀ b, S4 b → Foot a dx' .lst b ∨ S3 b) → Q (.fz .non) (env2.set i (some (t0.put pt t'))) → rAppend (.ref a) [w] H2 Qv := fun {t'} hz ⟨S4, h4, h5⟩ z => by
        refine ⟨a, us, w, rfl, rfl, c'.at_, hz, ?_⟩
        obtain ⟨y3, s3, o3⟩ := fin t' S4 h4 fun b hb => by
          rcases h5 b hb with z | z
          · exact .inl z
          · rcases h3 b z with z | z
            · exact .inr (.inl z)
            · exact .inr (.inr (dw b z).2.2)
        have y23 : Stp (Ma ++ (Mb ++ [i])) n H2 ow2 _ _ := y3.mono (fun i h => subr i (subr i h)) (Nat.le_succ _)
        exact k .non (.fz .non) _ _ _ ((y1.mono subl (Nat.le_refl _)).trans (y12.trans y23 (fun _ h => h) (fun _ h => h) (Nat.le_refl _) (Nat.le_refl _)) (fun _ h => h) (fun _ h => h) (Nat.le_refl _) (Nat.le_refl _)) s3
          ((o1.mono subl).trans ((o2.mono fun i h => subr i (subl i h)).trans (o3.mono fun i h => subr i (subr i h)) (fun _ h => h) fun _ h => h) (fun _ h => h) fun _ h => h) (Tq.fz_.mpr .non) z
      have cell : us.length < sizeLine → Cell (upd H2 a (.lst (us ++ [w]))) a dx' .lst (us ++ [w]) := fun hz => ⟨upd_same, by rw [List.length_append]; simp; omega, trivial⟩
      have nd : us.length < sizeLine → ∃ S4, Tp X.K (upd H2 a (.lst (us ++ [w]))) (Ow.mv ow2 (.tm (n + 1)) (.sl i)) (.sl i) (.ref a) (.nd .lst (ts ++ [u])) S4 ∧ ∀ b, S4 b → Foot a dx' .lst b ∨ S3 b := fun hz => ⟨_, .nd (cell hz) (fun b fb => ⟨(rF b fb).1, fun z => by
        rcases h3 b z with z | z
        · exact (rF b fb).2 z
        · exact (dw b z).2.1 fb⟩) r3, fun b h => h⟩
      cases t with
      | fz d => cases ek
      | ow kd ds =>
        cases kd <;> first | exact False.elim q2 | skip
        cases ek
        have hl : us.length = ds.length := by rw [lu, List.length_map]
        cases u with
        | fz d => exact key (by rw [hl]; exact q2.1) ⟨_, Tp.flat (S := S3) (cell (by rw [hl]; exact q2.1)) (fun b fb => (rF b fb).1) (by rw [List.map_append]; exact r3), fun b h => .inl h⟩ q2.2
        | ow _ _ => exact key (by rw [hl]; exact q2.1) (nd (by rw [hl]; exact q2.1)) q2.2
        | nd _ _ => exact key (by rw [hl]; exact q2.1) (nd (by rw [hl]; exact q2.1)) q2.2
      | nd kd ts' =>
        cases kd <;> first | exact False.elim q2 | skip
        cases ek
        exact key (by rw [lu]; exact q2.1) (nd (by rw [lu]; exact q2.1)) q2.2
    · exact q2.elim, fun r d H' ow' env' y s' o => x r d H' ow' env' (y.mono subl (Nat.le_refl _)) s' (o.mono subl)⟩⟩
def setP (t : T) (k : Int) (u : T) (Q : T → Prop) : Prop := match t with
  | .ow .lst ds => ∃ j, ixN ds.length k = some j ∧ match u with
    | .fz d => Q (.ow .lst (ds.set j d))
    | u => Q (.nd .lst ((ds.map .fz).set j u))
  | .nd .lst ts => ∃ j, ixN ts.length k = some j ∧ Q (.nd .lst (ts.set j u))
  | _ => False
def sStoreP (i : Nat) (q : SemE) (pa : SemP) (qi : SemE) : SemS := fun D env => q env (fun u env1 => pa env1 (fun t pt env2 => isL t = true ∧ qi env2 (fun w env3 => match w, env3[i]? with
  | .fz (.int k), some (some t0) => setP t k u fun t' => D.nx (env3.set i (some (t0.put pt t')))
  | _, _ => False) D.ex) D.ex) D.ex
theorem s_storeP (i : Nat) {tpos : Pos} (he : QE X W M e q) (ho : QP X W Ma (some i) o pa) (hix : QE X W Mb ix qi) (hr : okR (some i) Mb = true := by decide)
    (ha : ∀ v, assign (.Subscript o ix tpos) X.env v = (do
      let ov ← holding [v] (eval o X.env)
      let iv ← holding [v, ov] (eval ix X.env)
      standAt tpos
      holding [v, ov, iv] (setItem ov iv v)
      release [v, ov, iv] []) := by intro _; rfl) (hs : swapsWithSole [.Subscript o ix tpos] e pos.line X.env = pure false := by rfl) (hw : swappedStores [.Subscript o ix tpos] e X.env = pure none := by rfl)
    (h1 : (assignEach [.Subscript o ix tpos] X.env).map (·.2) = [assign (.Subscript o ix tpos) X.env] := by rfl) : QS X W IO (.Assign [.Subscript o ix tpos] e pos) (sStoreP i q pa qi) :=
  ⟨PS_imp (ps_asg he.run (pg_sub ho.run hix.run set_list ha) hs hw h1) fun D σ H ⟨ow, env, De, s, hq, k⟩ => ⟨0, ow, env, _, De.ex, s, hq, fun w u H0 ow0 env0 y0 s0 _ r0 q0 =>
    ⟨1, ow0, env0, _, De.ex, s0, q0, fun v t pt H1 ow1 env1 y1 s1 o1 r1 ⟨hk, q1⟩ => by
      obtain ⟨ts, ek⟩ := isL_kids hk
      obtain ⟨v0, t0, e1, e2, sb⟩ := r1.own ek
      have r0' : Tq X.K H1 ow1 (.tm 0) w u := (y1.car (l := .tm 0) Nat.zero_lt_one).tq r0
      refine ⟨2, ow1, env1, _, De.ex, s1, q1, fun kv kt H2 ow2 env2 y2 s2 o2 r2 q2 => ?_, ((k.ex.step y0.fs Ios.refl).step y1.fs Ios.refl).xk⟩
      have hi := okR_some hr
      have r0'' : Tq X.K H2 ow2 (.tm 0) w u := (y2.car (l := .tm 0) (by show 0 < 2; decide)).tq r0'
      have e2' : env2[i]? = some (some t0) := (o2.eq i hi).trans e2
      have sb' : Sub X.K H2 ow2 (.sl i) v0 t0 pt v t := sb.car (y2.car (l := .sl i) hi)
      split at q2
      · rename_i kk t0' e3
        rw [e2'] at e3
        cases e3
        have ekv := Tq.rd r2
        cases ekv
        obtain ⟨a, dx, us, S, ea, c, rr, go⟩ := put_run (m := 0) s2 e1 e2' sb' ek
        subst ea
        have lu := rr.len
        have key : ∀ {j : Nat} {t' : T}, ixN us.length kk = some j → (∀ S3, Tps X.K (upd H2 a (.lst (us.set j w))) (Ow.mv ow2 (.tm 0) (.sl i)) (.sl i) (us.set j w) (ts.set j u) S3 → (∀ b, Foot a dx .lst b → Ow.mv ow2 (.tm 0) (.sl i) b = .sl i ∧ ¬ S3 b) → Cell (upd H2 a (.lst (us.set j w))) a dx .lst (us.set j w) → ∃ S4, Tp X.K (upd H2 a (.lst (us.set j w))) (Ow.mv ow2 (.tm 0) (.sl i)) (.sl i) (.ref a) t' S4 ∧ ∀ b, S4 b → Foot a dx .lst b ∨ S3 b) → De.nx (env2.set i (some (t0.put pt t'))) → rSetL (.ref a) (.int kk) w H2 fun H3 => D.nx σ H3 := fun {j t'} hj mk z => by
          refine ⟨a, us, kk, j, rfl, rfl, c.at_, hj, ?_⟩
          obtain ⟨Bs', rS, rW, rF, fin⟩ := go (.lst (us.set j w))
          obtain ⟨Sw, rw', dw⟩ := rW w u r0''
          have hjl := ixN_lt hj
          obtain ⟨S1, _, sub1, put⟩ := rS.put (j := j) (v1 := us[j]) (t1 := ts[j]'(by omega)) (by simp [hjl]) (by simp)
          obtain ⟨S3, r3, h3⟩ := put _ _ w u Sw (fun _ _ e => e) (fun b x _ _ g1 g2 => ⟨g1, g2⟩) rw' fun b hb hs => absurd hs (dw b hb).1
          have F3 : ∀ b, Foot a dx .lst b → Ow.mv ow2 (.tm 0) (.sl i) b = .sl i ∧ ¬ S3 b := fun b fb => ⟨(rF b fb).1, fun z => by
            rcases h3 b z with z | z
            · exact (rF b fb).2 z.1
            · exact (dw b z).2.1 fb⟩
          obtain ⟨S4, h4, h5⟩ := mk S3 r3 F3 ⟨upd_same, by rw [List.length_set]; exact c.sz, trivial⟩
          obtain ⟨y3, s3, o3⟩ := fin t' S4 h4 fun b hb => by
            rcases h5 b hb with z | z
            · exact .inl z
            · rcases h3 b z with z | z
              · exact .inr (.inl z.1)
              · exact .inr (.inr (dw b z).2.2)
          exact k.nx _ _ _ _ (((y0.fs.trans y1.fs).trans y2.fs).trans y3.fs) Ios.refl s3 z
        cases t with
        | fz d => cases ek
        | ow kd ds =>
          cases kd <;> first | exact False.elim q2 | skip
          cases ek
          rw [List.length_map] at lu
          obtain ⟨j, hj, z⟩ := q2
          cases u with
          | fz d =>
            refine key (by rw [lu]; exact hj) (fun S3 r3 F3 cc => ⟨_, Tp.flat (S := S3) cc (fun b fb => (F3 b fb).1) ?_, fun b h => .inl h⟩) z
            rw [List.map_set]; exact r3
          | ow _ _ => exact key (by rw [lu]; exact hj) (fun S3 r3 F3 cc => ⟨_, .nd cc F3 r3, fun b h => h⟩) z
          | nd _ _ => exact key (by rw [lu]; exact hj) (fun S3 r3 F3 cc => ⟨_, .nd cc F3 r3, fun b h => h⟩) z
        | nd kd ts' =>
          cases kd <;> first | exact False.elim q2 | skip
          cases ek
          obtain ⟨j, hj, z⟩ := q2
          exact key (by rw [lu]; exact hj) (fun S3 r3 F3 cc => ⟨_, .nd cc F3 r3, fun b h => h⟩) z
      · exact q2.elim, (k.ex.step y0.fs Ios.refl).xk⟩, k.ex.xk⟩⟩
end
end QV

set_option Elab.async false
set_option linter.all false
set_option maxRecDepth 100000
set_option maxHeartbeats 2000000
namespace QV
open PySem L2

abbrev SemAT := Env → (List T → Env → Prop) → XQ → Prop
def tAT (K : PySem.W.Frag) (W : WX) (M : List Nat) (m : Nat) (q : SemAT) : TA := fun σ H Qv => ∃ (n : Nat) (ow : Ow) (env : Env) (Q : List T → Env → Prop) (E : XQ), StOk K H ow σ env ∧ q env Q E ∧
  (∀ (vs : List V) (ts : List T) (H' : Hp) (ow' : Ow) (env' : Env), Stp M n H ow H' ow' → StOk K H' ow' σ env' → Out M env env' → vs.length = m → ts.length = m → (∀ (j : Nat) (v : V) (t : T), vs[j]? = some v → ts[j]? = some t → Tq K H' ow' (.tm (n + j)) v t) → Q ts env' → Qv vs H') ∧ Xk K W M σ H n ow env E
structure QAT (X : Cx) (W : WX) (M : List Nat) (k : Nat) (es : List Expr) (q : SemAT) : Prop where
  run : PA X es (tAT X.K W M k q)
def atNil : SemAT := fun env Q _ => Q [] env
def atCons (q : SemE) (qs : SemAT) : SemAT := fun env Q E => q env (fun t env1 => qs env1 (fun ts env2 => Q (t :: ts) env2) E) E
def Ow.one (ow : Ow) (n : Nat) : Ow := fun b => match ow b with
  | .tm k => if n ≤ k then .tm n else .tm k
  | l => l
section
variable {K : PySem.W.Frag} {H : Hp} {ow : Ow} {n : Nat}
theorem one_tm {k : Nat} {b : Addr} (h : ow b = .tm k) (hk : n ≤ k) : Ow.one ow n b = .tm n := by unfold Ow.one; rw [h]; exact if_pos hk
theorem one_ne {b : Addr} (h : ∀ k, ow b = .tm k → k < n) : Ow.one ow n b = ow b := by
  unfold Ow.one
  split
  · rename_i k e
    rw [if_neg (by have := h k e; omega), e]
  · rfl
theorem bs_one : Same (Bs H ow) (Bs H (Ow.one ow n)) := fun a o e => by
  obtain ⟨e1, e2⟩ := bs_some e
  rw [bs_of (by rw [one_ne (fun k z => by rw [e1] at z; cases z)]; exact e1)]
  exact e2
theorem stp_one {M : List Nat} : Stp M n H ow H (Ow.one ow n) := fun a o e q => ⟨e, one_ne fun k z => by rw [z] at q; exact q⟩
theorem tps_one : ∀ {vs : List V} {ts : List T} {m : Nat}, n ≤ m → vs.length = ts.length → (∀ (j : Nat) (v : V) (t : T), vs[j]? = some v → ts[j]? = some t → Tq K H ow (.tm (m + j)) v t) → ∃ S, Tps K H (Ow.one ow n) (.tm n) vs ts S ∧ ∀ b, S b → ∃ k, m ≤ k ∧ ow b = .tm k
  | [], [], m, _, _, _ => ⟨_, .nil, fun _ h => h.elim⟩
  | v :: vs, t :: ts, m, hm, hl, h => by
    obtain ⟨S, r⟩ := h 0 v t rfl rfl
    obtain ⟨S2, r2, h2⟩ := tps_one (vs := vs) (ts := ts) (m := m + 1) (by omega) (by simpa using hl) fun j v' t' e1 e2 => by
      have := h (j + 1) v' t' (by simpa using e1) (by simpa using e2)
      rwa [show m + 1 + j = m + (j + 1) by omega]
    have r' := r.car (H' := H) (ow' := Ow.one ow n) (l' := .tm n) bs_one fun b o _ e1 e2 => ⟨e1, one_tm e2 (by omega)⟩
    refine ⟨_, .cons r' r2 fun b hb hb2 => ?_, fun b hb => ?_⟩
    · obtain ⟨k, hk, e⟩ := h2 b hb2
      have := (r.there b hb).1
      rw [e] at this
      have := Lab.tm.inj this
      omega
    · rcases hb with z | z
      · exact ⟨m, Nat.le_refl _, by have := (r.there b z).1; simpa using this⟩
      · obtain ⟨k, hk, e⟩ := h2 b z
        exact ⟨k, by omega, e⟩
theorem tps_there {l : Lab} {vs : List V} {ts : List T} {S : Addr → Prop} (r : Tps K H ow l vs ts S) (b : Addr) (h : S b) : ∃ o, H b = some o := (r.there b h).2
theorem nd_new {k : Kd} {l : Lab} {p : Addr} {vs : List V} {ts : List T} {o : HO} (hp : H p = none) (ho : HOof k p vs = o) (hz : vs.length ≤ sizeLine) (hf : k = .lst ∨ k = .tup) {S : Addr → Prop} (r : Tps K H ow l vs ts S) : Tq K (upd H p o) (Ow.put ow p l) l (.ref p) (.nd k ts) := by
  subst ho
  have r' := r.car (H' := upd H p (HOof k p vs)) (ow' := Ow.put ow p l) (l' := l) (Stp.bs (M := []) (n := 0) (Stp.new hp)) fun b o hb e1 e2 => by
    have ne : b ≠ p := ne_of_none e1 hp
    exact ⟨by rw [upd_ne ne]; exact e1, by rw [put_ne ne]; exact e2⟩
  have fp : ∀ b, Foot p p k b → b = p := fun b fb => by rcases hf with rfl | rfl <;> exact fb
  refine ⟨_, .nd (dx := p) ⟨upd_same, hz, by rcases hf with rfl | rfl <;> trivial⟩ (fun b fb => ?_) r'⟩
  have e := fp b fb
  subst e
  refine ⟨put_same, fun z => ?_⟩
  obtain ⟨o, e⟩ := tps_there r b z
  rw [hp] at e
  cases e
end
def sNd (k : Kd) (qs : SemAT) : SemE := fun env Q E => qs env (fun ts env1 => Q (.nd k ts) env1) E
section
variable {X : Cx} {W : WX} {M Ma Mb : List Nat} {k : Nat} {e : Expr} {es : List Expr} {q : SemE} {qs : SemAT} {pos : Pos}
theorem at_nil : QAT X W [] 0 [] atNil := ⟨PA_imp pa_nil fun σ H Qv ⟨n, ow, env, Q, E, s, hq, k, x⟩ => k [] [] H ow env Stp.refl s Out.refl rfl rfl (fun j v d h => by simp at h) hq⟩
theorem at_cons (h1 : QE X W Ma e q) (h2 : QAT X W Mb k es qs) (hs : starEach (e :: es) X.env = (false, eval e X.env) :: starEach es X.env := by rfl) : QAT X W (Ma ++ Mb) (k + 1) (e :: es) (atCons q qs) :=
  ⟨PA_imp (pa_cons h1.run h2.run hs) fun σ H Qv ⟨n, ow, env, Q, E, s, hq, kk, x⟩ => ⟨n, ow, env, _, E, s, hq, fun v t H1 ow1 env1 y1 s1 o1 r1 z =>
    ⟨n + 1, ow1, env1, _, E, s1, z, fun vs ts H2 ow2 env2 y2 s2 o2 l l' hv z2 => by
      refine kk _ _ H2 ow2 env2 (y1.trans y2 subl subr (Nat.le_refl _) (Nat.le_succ _)) s2 (o1.trans o2 subl subr) (by rw [List.length_cons, l]) (by rw [List.length_cons, l']) (fun j v' t' ev et => ?_) z2
      cases j with
      | zero =>
        simp at ev et
        subst ev et
        exact (y2.car (l := .tm n) (Nat.lt_succ_self n)).tq r1
      | succ j =>
        have := hv j v' t' (by simpa using ev) (by simpa using et)
        rwa [show n + 1 + j = n + (j + 1) by omega] at this, x.step y1 o1 subl subr (Nat.le_refl _) (Nat.le_succ _)⟩, fun r d H' ow' env' y s' o => x r d H' ow' env' (y.mono subl (Nat.le_refl _)) s' (o.mono subl)⟩⟩
theorem nd_run {kd : Kd} (hf : kd = .lst ∨ kd = .tup) (hz : k ≤ sizeLine) (ho : ∀ (p : Addr) (vs : List V), HOof kd p vs = HOof kd 0 vs) {σ : L2.St} {H : Hp} {Qv : VK} (h : tQ X.K W M (sNd kd qs) σ H Qv) :
    tAT X.K W M k qs σ H fun vs H1 => vs.length ≤ sizeLine ∧ ∀ p, H1 p = none → Qv (.ref p) (upd H1 p (HOof kd 0 vs)) := by
  obtain ⟨n, ow, env, Q, E, s, hq, kk, x⟩ := h
  refine ⟨n, ow, env, _, E, s, hq, fun vs ts H1 ow1 env1 y1 s1 o1 l l' hv z => ⟨by omega, fun p hp => ?_⟩, x⟩
  obtain ⟨S, r, _⟩ := tps_one (n := n) (Nat.le_refl n) (l.trans l'.symm) hv
  have y2 : Stp M n H1 ow1 H1 (Ow.one ow1 n) := stp_one
  have s2 : StOk X.K H1 (Ow.one ow1 n) σ env1 := s1.stp0 (n := n) stp_one
  have y3 : Stp M n H1 (Ow.one ow1 n) (upd H1 p (HOof kd 0 vs)) (Ow.put (Ow.one ow1 n) p (.tm n)) := Stp.new hp
  exact kk _ _ _ _ env1 ((y1.trans y2 (fun _ h => h) (fun _ h => h) (Nat.le_refl _) (Nat.le_refl _)).trans y3 (fun _ h => h) (fun _ h => h) (Nat.le_refl _) (Nat.le_refl _)) (s2.stp0 (n := 0) (Stp.new hp)) o1
    (nd_new hp (ho p vs) (by omega) hf r) z
theorem q_lstT (h : QAT X W M k es qs) (hz : k ≤ sizeLine := by decide) : QE X W M (.List es pos) (sNd .lst qs) := ⟨PE_imp (pe_lst h.run) fun _ _ _ z => nd_run (.inl rfl) hz (fun _ _ => rfl) z⟩
theorem q_tupT {x1} (h : QAT X W M k es qs) (hz : k ≤ sizeLine := by decide) : QE X W M (.Tuple es x1 pos) (sNd .tup qs) := ⟨PE_imp (pe_tup h.run) fun _ _ _ z => nd_run (.inr rfl) hz (fun _ _ => rfl) z⟩
end
end QV

set_option Elab.async false
set_option linter.all false
set_option maxRecDepth 100000
set_option maxHeartbeats 2000000
namespace QV
open PySem L2
def tAX (K : PySem.W.Frag) (W : WX) (M : List Nat) (ks : List (Option Nat)) (q : SemAT) : TA := fun σ H Qv => ∃ (n : Nat) (ow : Ow) (env : Env) (Q : List T → Env → Prop) (E : XQ), StOk K H ow σ env ∧ q env Q E ∧
  (∀ (vs : List V) (ts : List T) (H' : Hp) (ow' : Ow) (env' : Env), Stp M n H ow H' ow' → StOk K H' ow' σ env' → Out M env env' → vs.length = ks.length → ts.length = ks.length →
    (∀ (j : Nat) (v : V) (t : T), vs[j]? = some v → ts[j]? = some t → (ks[j]? = some none → Tq K H' ow' (.tm (n + j)) v t) ∧ ∀ i, ks[j]? = some (some i) → σ[i]? = some (some v)) → Q ts env' → Qv vs H') ∧ Xk K W M σ H n ow env E
structure QAX (X : Cx) (W : WX) (M : List Nat) (ks : List (Option Nat)) (es : List Expr) (q : SemAT) : Prop where
  run : PA X es (tAX X.K W M ks q)
def axOwn (i : Nat) (qs : SemAT) : SemAT := fun env Q E => match env[i]? with
  | some (some _) => qs env (fun ts env2 => Q (.fz .non :: ts) env2) E
  | _ => False
section
variable {X : Cx} {W : WX} {M Ma Mb : List Nat} {e : Expr} {es : List Expr} {q : SemE} {qs : SemAT} {ks : List (Option Nat)} {pos : Pos}
theorem ax_nil : QAX X W [] [] [] atNil := ⟨PA_imp pa_nil fun σ H Qv ⟨n, ow, env, Q, E, s, hq, k, x⟩ => k [] [] H ow env Stp.refl s Out.refl rfl rfl (fun j v d h => by simp at h) hq⟩
theorem ax_cons (h1 : QE X W Ma e q) (h2 : QAX X W Mb ks es qs) (hs : starEach (e :: es) X.env = (false, eval e X.env) :: starEach es X.env := by rfl) : QAX X W (Ma ++ Mb) (none :: ks) (e :: es) (atCons q qs) :=
  ⟨PA_imp (pa_cons h1.run h2.run hs) fun σ H Qv ⟨n, ow, env, Q, E, s, hq, k, x⟩ => ⟨n, ow, env, _, E, s, hq, fun v t H1 ow1 env1 y1 s1 o1 r1 z => by
    refine ⟨n + 1, ow1, env1, _, E, s1, z, fun vs ds H2 ow2 env2 y2 s2 o2 l1 l2 hv z2 => ?_, x.step y1 o1 subl subr (Nat.le_refl _) (Nat.le_succ _)⟩
    refine k _ _ H2 ow2 env2 (y1.trans y2 subl subr (Nat.le_refl _) (Nat.le_succ _)) s2 (o1.trans o2 subl subr) (by rw [List.length_cons, List.length_cons, l1]) (by rw [List.length_cons, List.length_cons, l2]) (fun j v' d' ev ed => ?_) z2
    cases j with
    | zero =>
      simp at ev ed
      subst ev ed
      exact ⟨fun _ => (y2.car (l := .tm n) (Nat.lt_succ_self n)).tq r1, fun i hi => by simp at hi⟩
    | succ j =>
      have := hv j v' d' (by simpa using ev) (by simpa using ed)
      rw [show n + 1 + j = n + (j + 1) by omega] at this
      simpa using this, fun r d H' ow' env' y s' o => x r d H' ow' env' (y.mono subl (Nat.le_refl _)) s' (o.mono subl)⟩⟩
theorem ax_own (i : Nat) {x : Str} {px : Pos} (h2 : QAX X W Mb ks es qs) (hN : X.N[i]? = some x := by rfl) (hv : Vis X.env.scope x := by first | exact Or.inl rfl | exact Or.inr (Or.inl rfl) | exact Or.inr (Or.inr rfl)) (hd : (x == ("__debug__" : Str)) = false := by decide)
    (hcd : (x == ("__classdict__" : Str)) = false := by decide) (hs : starEach (.Name x px :: es) X.env = (false, eval (.Name x px) X.env) :: starEach es X.env := by rfl) : QAX X W Mb (some i :: ks) (.Name x px :: es) (axOwn i qs) :=
  ⟨PA_imp (pa_cons (pe_var (i := i) hN hv hd hcd) h2.run hs) fun σ H Qv ⟨n, ow, env, Q, E, s, hq, k, x⟩ => by
    unfold axOwn at hq
    split at hq
    · rename_i t e
      obtain ⟨v, e1, r⟩ := s.at_ i t e
      refine ⟨v, e1, n + 1, ow, env, _, E, s, hq, fun vs ds H2 ow2 env2 y2 s2 o2 l1 l2 hv z2 => ?_, x.step (Stp.refl (M := []) (n := n)) (Out.refl (M := [])) nilsub (fun _ h => h) (Nat.le_refl _) (Nat.le_succ _)⟩
      refine k _ _ H2 ow2 env2 (y2.mono (fun _ h => h) (Nat.le_succ _)) s2 o2 (by rw [List.length_cons, List.length_cons, l1]) (by rw [List.length_cons, List.length_cons, l2]) (fun j v' d' ev ed => ?_) z2
      cases j with
      | zero =>
        simp at ev ed
        subst ev ed
        exact ⟨fun h => by simp at h, fun i' hi => by simp at hi; subst hi; exact e1⟩
      | succ j =>
        have := hv j v' d' (by simpa using ev) (by simpa using ed)
        rw [show n + 1 + j = n + (j + 1) by omega] at this
        simpa using this
    · exact hq.elim⟩
end
def asmT : List (Option Nat) → List T → Env → Option (List T)
  | [], [], _ => some []
  | none :: ks, d :: ds, env => match asmT ks ds env with
    | some ts => some (d :: ts)
    | none => none
  | some i :: ks, _ :: ds, env => match env[i]? with
    | some (some t) => match asmT ks ds env with
      | some ts => some (t :: ts)
      | none => none
    | _ => none
  | _, _, _ => none
theorem asmT_get : ∀ {ks : List (Option Nat)} {ds : List T} {env : Env} {ts : List T}, asmT ks ds env = some ts → ts.length = ks.length ∧ ∀ (j : Nat) (t : T), ts[j]? = some t → (ks[j]? = some none ∧ ds[j]? = some t) ∨ ∃ i, ks[j]? = some (some i) ∧ env[i]? = some (some t)
  | [], [], env, ts, h => by cases h; exact ⟨rfl, fun j t e => by simp at e⟩
  | none :: ks, d :: ds, env, ts, h => by
    simp only [asmT] at h
    split at h
    · rename_i us e
      cases h
      obtain ⟨h1, h2⟩ := asmT_get e
      refine ⟨by rw [List.length_cons, List.length_cons, h1], fun j t et => ?_⟩
      cases j with
      | zero => simp at et; subst et; exact .inl ⟨rfl, rfl⟩
      | succ j => simpa using h2 j t (by simpa using et)
    · cases h
  | some i :: ks, d :: ds, env, ts, h => by
    simp only [asmT] at h
    split at h
    · rename_i u eu
      split at h
      · rename_i us e
        cases h
        obtain ⟨h1, h2⟩ := asmT_get e
        refine ⟨by rw [List.length_cons, List.length_cons, h1], fun j t et => ?_⟩
        cases j with
        | zero => simp at et; subst et; exact .inr ⟨i, rfl, eu⟩
        | succ j => simpa using h2 j t (by simpa using et)
      · cases h
    · cases h
  | [], _ :: _, _, _, h => by simp [asmT] at h
  | none :: _, [], _, _, h => by simp [asmT] at h
  | some _ :: _, [], _, _, h => by simp [asmT] at h
def sCallT (spec : SemF) (ks : List (Option Nat)) (cs : List Nat) (qs : SemAT) : SemE := fun env Q E => qs env (fun ds env1 => match asmT ks ds env1 with
  | some args => spec args (fun t outs => Q t (putO cs outs env1)) (fun r outs => E r (putO cs outs env1))
  | none => False) E
def labInT (m : Nat) (io cs : List Nat) : Lab → Lab
  | .base => .base
  | .sl i => match (cs.zip io).lookup i with
    | some p => .sl p
    | none => .fr
  | .tm k => if m ≤ k then .sl (k - m) else .fr
  | .fr => .fr
section
variable {X : Cx} {W : WX} {M : List Nat} {k : Nat} {f : Addr} {fd : FuncData} {ps : List Str} {io cs : List Nat} {spec : SemF} {ks : List (Option Nat)} {e : Expr} {es : List Expr} {qs : SemAT} {x : Str} {p pos : Pos}
theorem callT_run {K : PySem.W.Frag} {n0 : Nat} (hio : io.Nodup) (hk : okK ks io cs = true) (hn : ks.length = n0) {σ : L2.St} {H1 : Hp} {Qv : VK} {m : Nat} {ow1 : Ow} {env1 : Env} {Q : T → Env → Prop} {E : XQ} {vs : List V} {ds : List T} {args : List T} (s1 : StOk K H1 ow1 σ env1) (l1 : vs.length = ks.length)
    (hv : ∀ (j : Nat) (v : V) (d : T), vs[j]? = some v → ds[j]? = some d → (ks[j]? = some none → Tq K H1 ow1 (.tm (m + j)) v d) ∧ ∀ i, ks[j]? = some (some i) → σ[i]? = some (some v))
    (l2 : ds.length = ks.length) (ha : asmT ks ds env1 = some args) (hs : spec args (fun t outs => Q t (putO cs outs env1)) (fun r outs => E r (putO cs outs env1)))
    (kk : ∀ v t H' ow' env', Stp cs m H1 ow1 H' ow' → StOk K H' ow' σ env' → Out cs env1 env' → Tq K H' ow' (.tm m) v t → Q t env' → Qv v H') (xx : Xk K W cs σ H1 m ow1 env1 E) : spQ K n0 io spec vs H1 Qv (fun cls d H' => W cls d σ H') := by
  unfold okK at hk
  simp only [Bool.and_eq_true, decide_eq_true_eq] at hk
  obtain ⟨⟨⟨nd, len⟩, hz⟩, hall⟩ := hk
  obtain ⟨a1, a2⟩ := asmT_get ha
  have slot : ∀ {i p : Nat} {j : Nat}, cs[j]? = some i → io[j]? = some p → labInT m io cs (.sl i) = .sl p := fun {i p j} e1 e2 => by
    simp only [labInT]
    rw [lookup_zip nd e1 e2]
  have back : ∀ {i p j : Nat} {old : Lab}, cs[j]? = some i → io[j]? = some p → labBack io cs m old (.sl p) = .sl i := fun {i p j old} e1 e2 => by
    simp only [labBack]
    rw [lookup_zip hio e2 e1]
  have kz : ∀ {j i p : Nat}, cs[j]? = some i → io[j]? = some p → ks[p]? = some (some i) := fun {j i p} e1 e2 => by
    have hm : (p, i) ∈ io.zip cs := List.mem_of_getElem? (i := j) (by rw [List.getElem?_zip_eq_some]; exact ⟨e2, e1⟩)
    exact of_decide_eq_true (List.all_eq_true.mp hz _ hm)
  have bsIn : Same (Bs H1 ow1) (Bs H1 fun a => labInT m io cs (ow1 a)) := fun a o e => by
    obtain ⟨e1, e2⟩ := bs_some e
    have : labInT m io cs (ow1 a) = .base := by rw [e1]; rfl
    unfold Bs
    rw [if_pos this]
    exact e2
  -- what is behind the call
  have after : ∀ {H2 : Hp} {owc : Ow}, Fs H1 (fun a => labInT m io cs (ow1 a)) H2 owc → Stp cs m H1 ow1 H2 (fun a => labBack io cs m (ow1 a) (owc a)) ∧ Same (Bs H2 owc) (Bs H2 fun a => labBack io cs m (ow1 a) (owc a)) := fun {H2 owc} fs => by
    refine ⟨fun a o e q => ?_, fun a o e => ?_⟩
    · have key : (labInT m io cs (ow1 a) = .fr ∨ labInT m io cs (ow1 a) = .base) ∧ labBack io cs m (ow1 a) (labInT m io cs (ow1 a)) = ow1 a := by
        cases eo : ow1 a with
        | fr => exact ⟨.inl rfl, rfl⟩
        | base => exact ⟨.inr rfl, rfl⟩
        | tm k =>
          rw [eo] at q
          have hk : ¬ m ≤ k := Nat.not_le.mpr q
          have : labInT m io cs (.tm k) = .fr := if_neg hk
          rw [this]
          exact ⟨.inl rfl, rfl⟩
        | sl i =>
          rw [eo] at q
          have hi : i ∉ cs := q
          have : labInT m io cs (.sl i) = .fr := by simp only [labInT]; rw [lookup_zip_none hi]
          rw [this]
          exact ⟨.inl rfl, rfl⟩
      obtain ⟨e1, e2⟩ := fs a o e key.1
      refine ⟨e1, ?_⟩
      show labBack io cs m (ow1 a) (owc a) = ow1 a
      rw [e2]
      exact key.2
    · obtain ⟨e1, e2⟩ := bs_some e
      have : labBack io cs m (ow1 a) (owc a) = .base := by rw [e1]; rfl
      unfold Bs
      rw [if_pos this]
      exact e2
  have state : ∀ {H2 : Hp} {owc : Ow} {outs : List T}, Fs H1 (fun a => labInT m io cs (ow1 a)) H2 owc → outs.length = io.length → (∀ (j i : Nat) (u : T), io[j]? = some i → outs[j]? = some u → ∃ v, vs[i]? = some v ∧ Tq K H2 owc (.sl i) v u) →
      StOk K H2 (fun a => labBack io cs m (ow1 a) (owc a)) σ (putO cs outs env1) ∧ Out cs env1 (putO cs outs env1) := fun {H2 owc outs} fs lo ho => by
    obtain ⟨y, bsB⟩ := after fs
    have out : Out cs env1 (putO cs outs env1) := ⟨putO_len _ _ _, fun i hi => putO_out _ _ _ _ hi⟩
    refine ⟨s1.stp y out fun i t hi e => ?_, out⟩
    obtain ⟨j, ej, et⟩ := putO_in cs outs env1 i t nd (lo.trans len) hi e
    have hj : j < io.length := by have := (List.getElem?_eq_some_iff.mp et).1; omega
    have ep : io[j]? = some io[j] := by simp [hj]
    obtain ⟨v, ev, r⟩ := ho j io[j] t ep et
    have kp := kz ej ep
    have hp : io[j] < ds.length := by have := (List.getElem?_eq_some_iff.mp ev).1; omega
    refine ⟨v, (hv io[j] v ds[io[j]] ev (by simp [hp])).2 i kp, Car.tq ⟨bsB, fun a o _ eo => ⟨by assumption, ?_⟩⟩ r⟩
    show labBack io cs m (ow1 a) (owc a) = .sl i
    rw [eo]
    exact back ej ep
  refine ⟨by omega, fun a => labInT m io cs (ow1 a), args, _, _, by omega, fun j t et => ?_, hs, fun v t H2 owc outs fs r lo ho z => ?_, fun r d H2 owc outs fs rz lo ho z => ?_⟩
  · have hj : j < vs.length := by have := (List.getElem?_eq_some_iff.mp et).1; omega
    have ev : vs[j]? = some vs[j] := by simp [hj]
    refine ⟨vs[j], ev, ?_⟩
    have hjd : j < ds.length := by omega
    have ed : ds[j]? = some ds[j] := by simp [hjd]
    rcases a2 j t et with ⟨ek, ed'⟩ | ⟨i, ek, ee⟩
    · exact Car.tq ⟨bsIn, fun a o h eo => ⟨h, by
        show labInT m io cs (ow1 a) = .sl j
        rw [eo]
        show (if m ≤ m + j then Lab.sl (m + j - m) else Lab.fr) = .sl j
        rw [if_pos (by omega), show m + j - m = j by omega]⟩⟩ ((hv j _ t ev ed').1 ek)
    · have e1 := (hv j _ _ ev ed).2 i ek
      obtain ⟨w, e2, r⟩ := s1.at_ i t ee
      rw [e1] at e2
      cases e2
      have hall' := List.all_eq_true.mp hall j (List.mem_range.mpr (by omega))
      rw [ek] at hall'
      simp only [Bool.and_eq_true, decide_eq_true_eq] at hall'
      -- the place of i among cs is that of j among io
      obtain ⟨c, hc⟩ := List.getElem?_of_mem hall'.1
      have hcs : c < cs.length := by have := (List.getElem?_eq_some_iff.mp hc).1; omega
      have ec : cs[c]? = some cs[c] := by simp [hcs]
      have kp := kz ec hc
      rw [ek] at kp
      have ei : i = cs[c] := Option.some.inj (Option.some.inj kp)
      exact Car.tq ⟨bsIn, fun a o h eo => ⟨h, by
        show labInT m io cs (ow1 a) = .sl j
        rw [eo, ei]
        exact slot ec hc⟩⟩ r
  · obtain ⟨y, bsB⟩ := after fs
    obtain ⟨s2, o2⟩ := state fs lo ho
    exact kk v t H2 _ _ y s2 o2 (Car.tq ⟨bsB, fun a o h eo => ⟨h, by
      show labBack io cs m (ow1 a) (owc a) = .tm m
      rw [eo]
      rfl⟩⟩ r) z
  · obtain ⟨y, bsB⟩ := after fs
    obtain ⟨s2, o2⟩ := state fs lo ho
    refine xx r d H2 _ _ y s2 o2 ?_ z
    cases d with
    | none => exact rz
    | some d =>
      obtain ⟨ws, e1, e2, e3⟩ := rz
      exact ⟨ws, bsB _ _ e1, e2, e3.mono bsB⟩
theorem q_callTt (F : QFn X.prog X.w X.K X.mg X.base k f fd ps io spec) (tk : L2.Takes X W) (hr : Room k X.A) (hG : X.A.guards = some []) (hg : Gl X x) (hm : X.mg x = some (.ref f)) (hk : PySem.W.keepIn X.K (.ref f) = true) (hb : Binds X.K fd ps [])
    (ha : QAX X W M ks (e :: es) qs) (cs : List Nat) (hio : io.Nodup := by decide) (hK : okK ks io cs = true := by decide) (hn : ks.length = ps.length := by rfl) (hdb : (x == ("__debug__" : Str)) = false := by decide) (he : starEach (e :: es) X.env = (false, eval e X.env) :: starEach es X.env := by rfl)
    (hpl : (backTo pos (starEach es X.env)).any (·.1) = false := by rfl) : QE X W (M ++ cs) (.Call (.Name x p) (e :: es) [] pos) (sCallT spec ks cs qs) :=
  ⟨PE_imp (pe_callG F hr hG hg hm hk hb tk ha.run hdb he hpl) fun σ H Qv ⟨n, ow, env, Q, E, st, hq, kk, xx⟩ => ⟨n, ow, env, _, E, st, hq, fun vs ds H1 ow1 env1 y1 s1 o1 l1 l2 hv z => by
    split at z
    · rename_i args ea
      exact callT_run hio hK hn s1 l1 hv l2 ea z (fun v t H2 ow2 env2 y2 s2 o2 r2 z2 => kk v t H2 ow2 env2 (y1.trans y2 subl subr (Nat.le_refl _) (Nat.le_refl _)) s2 (o1.trans o2 subl subr) r2 z2) (xx.step y1 o1 subl subr (Nat.le_refl _) (Nat.le_refl _))
    · exact z.elim, fun r d H' ow' env' y s' o => xx r d H' ow' env' (y.mono subl (Nat.le_refl _)) s' (o.mono subl)⟩⟩
theorem q_callCT (C : Callee X.prog X.w X.K X.mg X.base k x ps io spec) (tk : L2.Takes X W) (hr : Room k X.A) (hG : X.A.guards = some []) (hg : Gl X x)
    (ha : QAX X W M ks (e :: es) qs) (cs : List Nat) (hio : io.Nodup := by decide) (hK : okK ks io cs = true := by decide) (hn : ks.length = ps.length := by rfl) (hdb : (x == ("__debug__" : Str)) = false := by decide) (he : starEach (e :: es) X.env = (false, eval e X.env) :: starEach es X.env := by rfl)
    (hpl : (backTo pos (starEach es X.env)).any (·.1) = false := by rfl) : QE X W (M ++ cs) (.Call (.Name x p) (e :: es) [] pos) (sCallT spec ks cs qs) :=
  let ⟨_, _, F, hm, hk, hb⟩ := C
  q_callTt F tk hr hG hg hm hk hb ha cs hio hK hn hdb he hpl
end
end QV

set_option Elab.async false
set_option linter.all false
set_option maxRecDepth 100000
set_option maxHeartbeats 2000000
namespace QV
open PySem PySem.Spec PyProof.Rows L2
def flD0 : D → Bool
  | .non => true
  | .bl _ => true
  | .int _ => true
  | .str _ => true
  | _ => false
mutual
def ownT : T → Bool
  | .fz d => flD0 d
  | .ow _ ds => ds.all flD0
  | .nd _ ts => ownTs ts
def ownTs : List T → Bool
  | [] => true
  | t :: ts => ownT t && ownTs ts
end
section
variable {K : PySem.W.Frag} {B B' : Hp}
theorem rp_flat {v : V} {d : D} (r : Rp K B v d) (h : flD0 d = true) : Rp K B' v d := by
  cases r with
  | non => exact .non
  | bl b => exact .bl b
  | int i => exact .int i
  | str x => exact .str x
  | _ => cases h
theorem rps_flat : ∀ {vs : List V} {ds : List D}, Rps K B vs ds → ds.all flD0 = true → Rps K B' vs ds
  | _, _, .nil, _ => .nil
  | _, _, .cons r s, h => by
    rw [List.all_cons, Bool.and_eq_true] at h
    exact .cons (rp_flat r h.1) (rps_flat s h.2)
mutual
theorem Tp.free {H H' : Hp} {ow ow' : Ow} {l l' : Lab} : ∀ {v : V} {t : T} {S : Addr → Prop}, ownT t = true → (∀ a o, S a → H a = some o → ow a = l → H' a = some o ∧ ow' a = l') → Tp K H ow l v t S → Tp K H' ow' l' v t S
  | _, _, _, h, _, .fz r => .fz (rp_flat r (by simpa [ownT] using h))
  | _, _, _, h, k, .ow c f r => .ow (c.at_same fun b o fb q => (k b o fb q (f b fb)).1) (fun b fb => let ⟨o, q⟩ := c.there fb; (k b o fb q (f b fb)).2) (rps_flat r (by simpa [ownT] using h))
  | _, _, _, h, k, .nd c f r => .nd (c.at_same fun b o fb q => (k b o (.inl fb) q (f b fb).1).1)
      (fun b fb => let ⟨o, q⟩ := c.there fb; ⟨(k b o (.inl fb) q (f b fb).1).2, (f b fb).2⟩) (Tps.free (by simpa [ownT] using h) (fun b o s => k b o (.inr s)) r)
theorem Tps.free {H H' : Hp} {ow ow' : Ow} {l l' : Lab} : ∀ {v : List V} {t : List T} {S : Addr → Prop}, ownTs t = true → (∀ a o, S a → H a = some o → ow a = l → H' a = some o ∧ ow' a = l') → Tps K H ow l v t S → Tps K H' ow' l' v t S
  | _, _, _, _, _, .nil => .nil
  | _, t :: ts, _, h, k, .cons r s d => by
    have h' : ownT t = true ∧ ownTs ts = true := by simpa [ownTs] using h
    exact .cons (Tp.free h'.1 (fun b o q => k b o (.inl q)) r) (Tps.free h'.2 (fun b o q => k b o (.inr q)) s) d
end
end
def asmB : List (Option Nat) → List D → Env → Option (List T)
  | [], [], _ => some []
  | none :: ks, d :: ds, env => match asmB ks ds env with
    | some ts => some (.fz d :: ts)
    | none => none
  | some i :: ks, _ :: ds, env => match env[i]? with
    | some (some t) => match asmB ks ds env with
      | some ts => some (.fz t.d :: ts)
      | none => none
    | _ => none
  | _, _, _ => none
theorem asmB_get : ∀ {ks : List (Option Nat)} {ds : List D} {env : Env} {ts : List T}, asmB ks ds env = some ts → ts.length = ks.length ∧ ∀ (j : Nat) (t : T), ts[j]? = some t → (∃ d, ks[j]? = some none ∧ ds[j]? = some d ∧ t = .fz d) ∨ ∃ i u, ks[j]? = some (some i) ∧ env[i]? = some (some u) ∧ t = .fz u.d
  | [], [], env, ts, h => by cases h; exact ⟨rfl, fun j t e => by simp at e⟩
  | none :: ks, d :: ds, env, ts, h => by
    simp only [asmB] at h
    split at h
    · rename_i us e
      cases h
      obtain ⟨h1, h2⟩ := asmB_get e
      refine ⟨by rw [List.length_cons, List.length_cons, h1], fun j t et => ?_⟩
      cases j with
      | zero => simp at et; subst et; exact .inl ⟨d, rfl, rfl, rfl⟩
      | succ j => simpa using h2 j t (by simpa using et)
    · cases h
  | some i :: ks, d :: ds, env, ts, h => by
    simp only [asmB] at h
    split at h
    · rename_i u eu
      split at h
      · rename_i us e
        cases h
        obtain ⟨h1, h2⟩ := asmB_get e
        refine ⟨by rw [List.length_cons, List.length_cons, h1], fun j t et => ?_⟩
        cases j with
        | zero => simp at et; subst et; exact .inr ⟨i, u, rfl, eu, rfl⟩
        | succ j => simpa using h2 j t (by simpa using et)
      · cases h
    · cases h
  | [], _ :: _, _, _, h => by simp [asmB] at h
  | none :: _, [], _, _, h => by simp [asmB] at h
  | some _ :: _, [], _, _, h => by simp [asmB] at h
def sCallB (spec : SemF) (ks : List (Option Nat)) (qs : SemD) : SemE := fun env Q E => qs env (fun ds env1 => match asmB ks ds env1 with
  | some args => spec args (fun t outs => ownT t = true ∧ Q t env1) (fun _ _ => False)
  | none => False) E
def labInB (ks : List (Option Nat)) : Lab → Lab
  | .base => .base
  | .sl i => if some i ∈ ks then .base else .fr
  | _ => .fr
def labBackB (n : Nat) (old : Lab) (there : Bool) : Lab → Lab
  | .fr => old
  | .base => if there then old else .base
  | .sl _ => .tm n
  | .tm _ => .tm n
section
variable {X : Cx} {W : WX} {M : List Nat} {k : Nat} {f : Addr} {fd : FuncData} {ps : List Str} {io cs : List Nat} {spec : SemF} {ks : List (Option Nat)} {e : Expr} {es : List Expr} {qs : SemD} {x : Str} {p pos : Pos}
theorem callB_run {K : PySem.W.Frag} {n0 : Nat} (hn : ks.length = n0) {σ : L2.St} {H1 : Hp} {Qv : VK} {m : Nat} {ow1 : Ow} {env1 : Env} {Q : T → Env → Prop} {vs : List V} {ds : List D} {args : List T} (s1 : StOk K H1 ow1 σ env1) (l1 : vs.length = ks.length)
    (hv : ∀ (j : Nat) (v : V) (d : D), vs[j]? = some v → ds[j]? = some d → (ks[j]? = some none → Rp K (Bs H1 ow1) v d) ∧ ∀ i, ks[j]? = some (some i) → σ[i]? = some (some v))
    (l2 : ds.length = ks.length) (ha : asmB ks ds env1 = some args) (hs : spec args (fun t outs => ownT t = true ∧ Q t env1) (fun _ _ => False))
    (kk : ∀ v t H' ow', Stp [] m H1 ow1 H' ow' → StOk K H' ow' σ env1 → Tq K H' ow' (.tm m) v t → Q t env1 → Qv v H') : spQ K n0 [] spec vs H1 Qv (fun cls d H' => W cls d σ H') := by
  obtain ⟨a1, a2⟩ := asmB_get ha
  have bsIn : Same (Bs H1 ow1) (Bs H1 fun a => labInB ks (ow1 a)) := fun a o e => by
    obtain ⟨e1, e2⟩ := bs_some e
    have : labInB ks (ow1 a) = .base := by rw [e1]; rfl
    unfold Bs
    rw [if_pos this]
    exact e2
  refine ⟨by omega, fun a => labInB ks (ow1 a), args, fun t _ => ownT t = true ∧ Q t env1, fun _ _ => False, by omega, fun j t et => ?_, hs, fun v t H2 owc outs fs r lo ho ⟨ot, z⟩ => ?_, fun r d H2 owc outs fs rz lo ho z => z.elim⟩
  · have hj : j < vs.length := by have := (List.getElem?_eq_some_iff.mp et).1; omega
    have ev : vs[j]? = some vs[j] := by simp [hj]
    refine ⟨vs[j], ev, ?_⟩
    have hjd : j < ds.length := by omega
    have ed : ds[j]? = some ds[j] := by simp [hjd]
    rcases a2 j t et with ⟨d, ek, ed', rfl⟩ | ⟨i, u, ek, ee, rfl⟩
    · exact Tq.fz_.mpr (((hv j _ d ev ed').1 ek).mono bsIn)
    · have e1 := (hv j _ _ ev ed).2 i ek
      obtain ⟨w, e2, S, r⟩ := s1.at_ i u ee
      rw [e1] at e2
      cases e2
      refine Tq.fz_.mpr (r.all bsIn fun a o _ h eo => ?_)
      have hm : some i ∈ ks := List.mem_of_getElem? ek
      have : labInB ks (ow1 a) = .base := by rw [eo]; exact if_pos hm
      unfold Bs
      rw [if_pos this]
      exact h
  · have old : ∀ a o, H1 a = some o → (labInB ks (ow1 a) = .fr ∨ labInB ks (ow1 a) = .base) → H2 a = some o ∧ labBackB m (ow1 a) (H1 a).isSome (owc a) = ow1 a := fun a o e q => by
      obtain ⟨e1, e2⟩ := fs a o e q
      refine ⟨e1, ?_⟩
      rw [e2]
      rcases q with q | q
      · show labBackB m (ow1 a) _ (labInB ks (ow1 a)) = _
        rw [q]; rfl
      · show labBackB m (ow1 a) _ (labInB ks (ow1 a)) = _
        rw [q, e]; rfl
    have all : ∀ l, Prot [] m l → labInB ks l = .fr ∨ labInB ks l = .base := fun l _ => by
      cases l with
      | fr => exact .inl rfl
      | base => exact .inr rfl
      | tm k => exact .inl rfl
      | sl i =>
        by_cases h : some i ∈ ks
        · exact .inr (if_pos h)
        · exact .inl (if_neg h)
    have stp : Stp [] m H1 ow1 H2 (fun a => labBackB m (ow1 a) (H1 a).isSome (owc a)) := fun a o e q => old a o e (all _ q)
    obtain ⟨S, r⟩ := r
    exact kk v t H2 _ stp (s1.stp0 stp) ⟨S, Tp.free ot (fun a o _ e eo => ⟨e, by
      show labBackB m (ow1 a) _ (owc a) = .tm m
      rw [eo]; rfl⟩) r⟩ z
theorem q_callB (F : QFn X.prog X.w X.K X.mg X.base k f fd ps [] spec) (tk : L2.Takes X W) (hr : Room k X.A) (hG : X.A.guards = some []) (hg : Gl X x) (hm : X.mg x = some (.ref f)) (hk : PySem.W.keepIn X.K (.ref f) = true) (hb : Binds X.K fd ps [])
    (ha : QA X W M ks (e :: es) qs) (hn : ks.length = ps.length := by rfl) (hdb : (x == ("__debug__" : Str)) = false := by decide) (he : starEach (e :: es) X.env = (false, eval e X.env) :: starEach es X.env := by rfl)
    (hpl : (backTo pos (starEach es X.env)).any (·.1) = false := by rfl) : QE X W M (.Call (.Name x p) (e :: es) [] pos) (sCallB spec ks qs) :=
  ⟨PE_imp (pe_callG F hr hG hg hm hk hb tk ha.run hdb he hpl) fun σ H Qv ⟨n, ow, env, Q, E, st, hq, kk, xx⟩ => ⟨n, ow, env, _, E, st, hq, fun vs ds H1 ow1 env1 y1 s1 o1 l1 l2 hv z => by
    split at z
    · rename_i args ea
      exact callB_run hn s1 l1 hv l2 ea z fun v t H2 ow2 y2 s2 r2 z2 => kk v t H2 ow2 env1 (y1.trans y2 (fun _ h => h) nilsub (Nat.le_refl _) (Nat.le_refl _)) s2 o1 r2 z2
    · exact z.elim, xx⟩⟩
theorem q_callCB (C : Callee X.prog X.w X.K X.mg X.base k x ps [] spec) (tk : L2.Takes X W) (hr : Room k X.A) (hG : X.A.guards = some []) (hg : Gl X x)
    (ha : QA X W M ks (e :: es) qs) (hn : ks.length = ps.length := by rfl) (hdb : (x == ("__debug__" : Str)) = false := by decide) (he : starEach (e :: es) X.env = (false, eval e X.env) :: starEach es X.env := by rfl)
    (hpl : (backTo pos (starEach es X.env)).any (·.1) = false := by rfl) : QE X W M (.Call (.Name x p) (e :: es) [] pos) (sCallB spec ks qs) :=
  let ⟨_, _, F, hm, hk, hb⟩ := C
  q_callB F tk hr hG hg hm hk hb ha hn hdb he hpl
end
def dropBack (spec : SemF) : SemF := fun args Q E => spec args (fun t _ => Q t []) (fun r _ => E r [])
theorem spQ_drop {K : PySem.W.Frag} {n : Nat} {io : List Nat} {spec : SemF} {vs : List V} {H : Hp} {Qv : VK} {E : XK} (h : spQ K n [] (dropBack spec) vs H Qv E) : spQ K n io spec vs H Qv E := by
  obtain ⟨hl, ow, args, Q, EE, h1, h2, h3, h4, h5⟩ := h
  exact ⟨hl, ow, args, _, _, h1, h2, h3, fun v t H' ow' outs fs r _ _ z => h4 v t H' ow' [] fs r rfl (fun j i u e => by simp at e) z, fun r d H' ow' outs fs rz _ _ z => h5 r d H' ow' [] fs rz rfl (fun j i u e => by simp at e) z⟩
theorem Callee.noback {P : Program} {w : World} {K : PySem.W.Frag} {mg : Str → Option Value} {base : Heap} {k : Nat} {x : Str} {ps : List Str} {io : List Nat} {spec : SemF} (C : Callee P w K mg base k x ps io spec) : Callee P w K mg base k x ps [] (dropBack spec) :=
  let ⟨f, fd, F, h⟩ := C
  ⟨f, fd, FnG.imp F fun _ _ _ _ q => spQ_drop q, h⟩
end QV

set_option Elab.async false
set_option linter.all false
set_option maxRecDepth 100000
set_option maxHeartbeats 2000000
namespace QV
open PySem L2
def look {κ α : Type} [DecidableEq κ] : List κ → List α → κ → Option α
  | k' :: ks, a :: as, k => if k' = k then some a else look ks as k
  | _, _, _ => none
theorem look_zip {κ : Type} [DecidableEq κ] : ∀ (ks : List κ) (vs : List V) (k : κ), valV (ks.zip vs) k = look ks vs k
  | [], vs, k => by simp [look, valV]
  | k' :: ks, [], k => by simp [look, valV]
  | k' :: ks, v :: vs, k => by
    rw [List.zip_cons_cons]
    by_cases e : k' = k
    · rw [valV_pos e, look, if_pos e]
    · rw [valV_neg e, look, if_neg e, look_zip ks vs k]
section
variable {K : PySem.W.Frag} {B : Hp}
theorem Rps.look {κ : Type} [DecidableEq κ] : ∀ {ks : List κ} {vs : List V} {ds : List D} {k : κ}, Rps K B vs ds → (QV.look ks ds k = none ∧ QV.look ks vs k = none) ∨ ∃ d v, QV.look ks ds k = some d ∧ QV.look ks vs k = some v ∧ Rp K B v d
  | [], _, _, _, .nil => .inl ⟨rfl, rfl⟩
  | [], _, _, _, .cons _ _ => .inl ⟨rfl, rfl⟩
  | k' :: ks, _, _, k, .nil => .inl ⟨rfl, rfl⟩
  | k' :: ks, _, _, k, .cons (d := d) (v := v) r s => by
    by_cases e : k' = k
    · exact .inr ⟨d, v, by rw [QV.look, if_pos e], by rw [QV.look, if_pos e], r⟩
    · rcases Rps.look (ks := ks) (k := k) s with ⟨h1, h2⟩ | ⟨d, v, h1, h2, h3⟩
      · exact .inl ⟨by rw [QV.look, if_neg e, h1], by rw [QV.look, if_neg e, h2]⟩
      · exact .inr ⟨d, v, by rw [QV.look, if_neg e, h1], by rw [QV.look, if_neg e, h2], h3⟩
end
def keyD : D → Option Key
  | .int i => some (Sum.inl i)
  | .str x => some (Sum.inr x)
  | _ => none
def keysD : List D → Option (List Key)
  | [] => some []
  | d :: ds => match keyD d, keysD ds with
    | some k, some ks => some (k :: ks)
    | _, _ => none
def shK : T → Option (List Key × List D)
  | .fz (.nd (.dK ks) ds) => some (ks, ds)
  | .ow (.dK ks) ds => some (ks, ds)
  | _ => none
def shKT : T → Option (List (List Key) × List D)
  | .fz (.nd (.dT ks) ds) => some (ks, ds)
  | .ow (.dT ks) ds => some (ks, ds)
  | _ => none
section
variable {K : PySem.W.Frag} {H : Hp} {ow : Ow}
theorem rp_key {B : Hp} {y : V} {d : D} {k : Key} (r : Rp K B y d) (h : keyD d = some k) : y = kV k := by
  cases r <;> cases h <;> rfl
theorem rps_keys {B : Hp} : ∀ {vs : List V} {ds : List D} {ks : List Key}, Rps K B vs ds → keysD ds = some ks → vs = ks.map kV
  | _, _, ks, .nil, h => by cases h; rfl
  | _, _, ks, .cons (d := d) (ds := ds) r s, h => by
    simp only [keysD] at h
    split at h
    · rename_i k ks' e1 e2
      cases h
      rw [rp_key r e1, rps_keys s e2]
      rfl
    · cases h
theorem Ro.key {y : V} {d : D} {k : Key} (r : Ro K H ow y (.fz d)) (h : keyD d = some k) : y = kV k := rp_key r.rd h
theorem Ro.keyT {y : V} {t : T} {ds : List D} {ks : List Key} (r : Ro K H ow y t) (e : t = .fz (.nd .tup ds)) (h : keysD ds = some ks) : ∃ b, y = .ref b ∧ H b = some (.tup (ks.map kV)) := by
  subst e
  obtain ⟨l, r⟩ := r
  cases Tq.fz_.mp r with
  | tup c z r => exact ⟨_, rfl, by rw [← rps_keys r h]; exact bs_same H ow _ _ c⟩
  | cell hn _ _ => exact absurd rfl hn
theorem Ro.dK {x : V} {t : T} {ks : List Key} {ds : List D} (h : Ro K H ow x t) (e : shK t = some (ks, ds)) : ∃ a vs, x = .ref a ∧ H a = some (.dK (ks.zip vs)) ∧ ks.length = vs.length ∧ vs.length ≤ sizeLine ∧ Rps K (Bs H ow) vs ds := by
  unfold shK at e
  split at e
  · cases e
    obtain ⟨l, h⟩ := h
    cases Tq.fz_.mp h with
    | cell _ c r => exact ⟨_, _, rfl, bs_same H ow _ _ c.at_, c.fit, c.sz, r⟩
  · cases e
    obtain ⟨l, S, h⟩ := h
    cases h with
    | ow c _ r => exact ⟨_, _, rfl, c.at_, c.fit, c.sz, r⟩
  · cases e
theorem Ro.dT {x : V} {t : T} {ks : List (List Key)} {ds : List D} (h : Ro K H ow x t) (e : shKT t = some (ks, ds)) : ∃ a vs, x = .ref a ∧ H a = some (.dT (ks.zip vs)) ∧ ks.length = vs.length ∧ vs.length ≤ sizeLine ∧ Rps K (Bs H ow) vs ds := by
  unfold shKT at e
  split at e
  · cases e
    obtain ⟨l, h⟩ := h
    cases Tq.fz_.mp h with
    | cell _ c r => exact ⟨_, _, rfl, bs_same H ow _ _ c.at_, c.fit, c.sz, r⟩
  · cases e
    obtain ⟨l, S, h⟩ := h
    cases h with
    | ow c _ r => exact ⟨_, _, rfl, c.at_, c.fit, c.sz, r⟩
  · cases e
def dGet (t u : T) : Option (Option D) := match t, u with
  | .fz (.nd (.dK ks) ds), .fz d => (keyD d).map fun k => look ks ds k
  | .ow (.dK ks) ds, .fz d => (keyD d).map fun k => look ks ds k
  | .fz (.nd (.dT ks) ds), .fz (.nd .tup es) => (keysD es).map fun k => look ks ds k
  | .ow (.dT ks) ds, .fz (.nd .tup es) => (keysD es).map fun k => look ks ds k
  | _, _ => none
theorem dget_of {x y : V} {t u : T} {o : Option D} (rx : Ro K H ow x t) (ry : Ro K H ow y u) (h : dGet t u = some o) : ∃ a r, x = .ref a ∧ DGet H a y r ∧ IsD H a ∧ ((o = none ∧ r = none) ∨ ∃ d v, o = some d ∧ r = some v ∧ Rp K (Bs H ow) v d) := by
  have kk : ∀ {ks : List Key} {ds : List D} {d : D}, shK t = some (ks, ds) → u = .fz d → ((keyD d).map fun k => look ks ds k) = some o → ∃ a r, x = .ref a ∧ DGet H a y r ∧ IsD H a ∧ ((o = none ∧ r = none) ∨ ∃ d v, o = some d ∧ r = some v ∧ Rp K (Bs H ow) v d) := fun {ks ds d} e1 e2 e3 => by
    subst e2
    obtain ⟨a, vs, rfl, c, hl, hz, r⟩ := rx.dK e1
    cases ek : keyD d with
    | none => rw [ek] at e3; cases e3
    | some k =>
      rw [ek] at e3
      cases e3
      have ey := ry.key ek
      subst ey
      refine ⟨a, _, rfl, DGet.k c, .inl ⟨_, .inl c⟩, ?_⟩
      rw [look_zip]
      exact r.look
  have kt : ∀ {ks : List (List Key)} {ds es : List D}, shKT t = some (ks, ds) → u = .fz (.nd .tup es) → ((keysD es).map fun k => look ks ds k) = some o → ∃ a r, x = .ref a ∧ DGet H a y r ∧ IsD H a ∧ ((o = none ∧ r = none) ∨ ∃ d v, o = some d ∧ r = some v ∧ Rp K (Bs H ow) v d) := fun {ks ds es} e1 e2 e3 => by
    obtain ⟨a, vs, rfl, c, hl, hz, r⟩ := rx.dT e1
    cases ek : keysD es with
    | none => rw [ek] at e3; cases e3
    | some k =>
      rw [ek] at e3
      cases e3
      obtain ⟨b, rfl, hb⟩ := ry.keyT e2 ek
      refine ⟨a, _, rfl, DGet.t c hb, .inr ⟨_, .inl c⟩, ?_⟩
      rw [look_zip]
      exact r.look
  unfold dGet at h
  split at h
  · exact kk rfl rfl h
  · exact kk rfl rfl h
  · exact kt rfl rfl h
  · exact kt rfl rfl h
  · cases h
end
def rIxA (K : PySem.W.Frag) : R2 := fun x y H Q => rIx K x y H Q ∨ ∃ a v, x = .ref a ∧ DGet H a y (some v) ∧ Q v H
theorem ix_dict {X : Cx} (hu : X.A.units + 1 < cLine) : IxR X (fun x y H Q => ∃ a v, x = .ref a ∧ DGet H a y (some v) ∧ Q v H) := by
  intro value slice pins s σ H x y v u Q I rx ry h hs
  obtain ⟨a, r, rfl, g, q⟩ := h
  obtain rfl : v = Value.ref a := rx
  exact PyProof.Rows.tail_any (dict_typeIs I g) slot_dict_getitem.lookup (d_getItem hu I g ry fun w' s3 I3 rw' => ⟨r, H, I3, rw', q⟩) hs
theorem ix_all {X : Cx} (hu : X.A.units + 65 < cLine) : IxR X (rIxA X.K) := ix_seq.or (ix_dict (by omega))
def ixA (t u : T) (Q : T → Prop) : Prop := match t with
  | .fz (.nd (.dK ks) ds) => ∃ d, dGet (.fz (.nd (.dK ks) ds)) u = some (some d) ∧ Q (.fz d)
  | .fz (.nd (.dT ks) ds) => ∃ d, dGet (.fz (.nd (.dT ks) ds)) u = some (some d) ∧ Q (.fz d)
  | .ow (.dK ks) ds => ∃ d, dGet (.ow (.dK ks) ds) u = some (some d) ∧ Q (.fz d)
  | .ow (.dT ks) ds => ∃ d, dGet (.ow (.dT ks) ds) u = some (some d) ∧ Q (.fz d)
  | t => ixG t u Q
theorem g_ixA {K : PySem.W.Frag} : Op2 K (rIxA K) ixA := by
  intro H ow n x y t u Q Qv rx ry h k
  have dd : (∃ d, dGet t u = some (some d) ∧ Q (.fz d)) → rIxA K x y H Qv := fun ⟨d, h1, q⟩ => by
    obtain ⟨a, r, rfl, g, _, hr⟩ := dget_of rx ry h1
    rcases hr with ⟨z, _⟩ | ⟨d', v, e1, rfl, rv⟩
    · cases z
    · cases e1
      exact .inr ⟨a, v, rfl, g, k _ _ H ow Stp.refl (Tq.fz_.mpr rv) q⟩
  unfold ixA at h
  split at h
  · exact dd h
  · exact dd h
  · exact dd h
  · exact dd h
  · exact .inl (g_ix H ow n x y t u Q Qv rx ry h k)
def rInB (K : PySem.W.Frag) (neg : Bool) : R2 := fun x y H Q => rInAll K neg x y H Q ∨ (∃ d ds, Dp K H x d ∧ Dp K H y (.tuple ds) ∧ SeqAt.shaped d = true ∧ SeqAt.shaped (.tuple ds) = true ∧ Q (.bl (if neg then !ds.any (fun z => PyData.eqv z d) else ds.any fun z => PyData.eqv z d)) H) ∨
  ∃ a o, y = .ref a ∧ DGet H a x o ∧ Q (.bl (if neg then !o.isSome else o.isSome)) H
theorem op_inT {X : Cx} (hu : X.A.units + 65 < cLine) : OpR X (compareOp .In) (fun x y H Q => ∃ d ds, Dp X.K H x d ∧ Dp X.K H y (.tuple ds) ∧ SeqAt.shaped d = true ∧ SeqAt.shaped (.tuple ds) = true ∧ Q (.bl (ds.any fun z => PyData.eqv z d)) H) := by
  intro pins s σ H x y v u Q I rx ry h
  obtain ⟨d, ds, hd, he, sd, se, q⟩ := h
  obtain ⟨as, r1⟩ := Dp.reads I d x v hd rx
  obtain ⟨bs, r2⟩ := Dp.reads I (.tuple ds) y u he ry
  exact SeqAt.in_tuple_reads r2 r1 (SeqAt.canLay_of_shaped se) (SeqAt.canLay_of_shaped sd) (PyProof.Rows.room_in_shaped sd hu) ⟨.bl _, H, I, rfl, q⟩
theorem op_niT {X : Cx} (hu : X.A.units + 65 < cLine) : OpR X (compareOp .NotIn) (fun x y H Q => ∃ d ds, Dp X.K H x d ∧ Dp X.K H y (.tuple ds) ∧ SeqAt.shaped d = true ∧ SeqAt.shaped (.tuple ds) = true ∧ Q (.bl (!ds.any fun z => PyData.eqv z d)) H) := by
  intro pins s σ H x y v u Q I rx ry h
  obtain ⟨d, ds, hd, he, sd, se, q⟩ := h
  obtain ⟨as, r1⟩ := Dp.reads I d x v hd rx
  obtain ⟨bs, r2⟩ := Dp.reads I (.tuple ds) y u he ry
  exact SeqAt.notIn_tuple_reads r2 r1 (SeqAt.canLay_of_shaped se) (SeqAt.canLay_of_shaped sd) (PyProof.Rows.room_in_shaped sd hu) ⟨.bl _, H, I, rfl, q⟩
theorem op_inDc {X : Cx} (hu : X.A.units + 65 < cLine) : OpR X (compareOp .In) (fun x y H Q => ∃ a o, y = .ref a ∧ DGet H a x o ∧ Q (.bl o.isSome) H) := by
  intro pins s σ H x y v u Q I rx ry ⟨a, o, e, g, q⟩
  subst e
  obtain rfl : u = Value.ref a := ry
  exact d_in (by omega) I g rx fun s3 I3 => ⟨.bl o.isSome, H, I3, rfl, q⟩
theorem op_niDc {X : Cx} (hu : X.A.units + 65 < cLine) : OpR X (compareOp .NotIn) (fun x y H Q => ∃ a o, y = .ref a ∧ DGet H a x o ∧ Q (.bl (!o.isSome)) H) := by
  intro pins s σ H x y v u Q I rx ry ⟨a, o, e, g, q⟩
  subst e
  obtain rfl : u = Value.ref a := ry
  exact d_notIn (by omega) I g rx fun s3 I3 => ⟨.bl (!o.isSome), H, I3, rfl, q⟩
theorem op_inB {X : Cx} (hu : X.A.units + 65 < cLine) : OpR X (compareOp .In) (rInB X.K false) := (op_inAll hu).or (OpR.or (op_inT hu) (op_inDc hu))
theorem op_niB {X : Cx} (hu : X.A.units + 65 < cLine) : OpR X (compareOp .NotIn) (rInB X.K true) := (op_niAll hu).or (OpR.or (op_niT hu) (op_niDc hu))
def inA (neg : Bool) (t u : T) (Q : T → Prop) : Prop := match u with
  | .fz (.nd .tup es) => ((flD t.d && es.all flD) = true ∨ (t.d.pl 63 = true ∧ Dspl 63 es = true)) ∧ Q (.fz (.bl (if neg then !es.any (fun z => eqD z t.d) else es.any fun z => eqD z t.d)))
  | .fz (.nd (.dK ks) ds) => ∃ o, dGet (.fz (.nd (.dK ks) ds)) t = some o ∧ Q (.fz (.bl (if neg then !o.isSome else o.isSome)))
  | .fz (.nd (.dT ks) ds) => ∃ o, dGet (.fz (.nd (.dT ks) ds)) t = some o ∧ Q (.fz (.bl (if neg then !o.isSome else o.isSome)))
  | .ow (.dK ks) ds => ∃ o, dGet (.ow (.dK ks) ds) t = some o ∧ Q (.fz (.bl (if neg then !o.isSome else o.isSome)))
  | .ow (.dT ks) ds => ∃ o, dGet (.ow (.dT ks) ds) t = some o ∧ Q (.fz (.bl (if neg then !o.isSome else o.isSome)))
  | u => inG neg t u Q
theorem g_inA {K : PySem.W.Frag} (neg : Bool) : Op2 K (rInB K neg) (inA neg) := by
  intro H ow n x y t u Q Qv rx ry h k
  have dd : (∃ o, dGet u t = some o ∧ Q (.fz (.bl (if neg then !o.isSome else o.isSome)))) → rInB K neg x y H Qv := fun ⟨o, h1, q⟩ => by
    obtain ⟨a, r, rfl, g, _, hr⟩ := dget_of ry rx h1
    refine .inr (.inr ⟨a, r, rfl, g, k _ _ H ow Stp.refl (Tq.fz_.mpr ?_) q⟩)
    have : r.isSome = o.isSome := by
      rcases hr with ⟨rfl, rfl⟩ | ⟨_, _, rfl, rfl, _⟩ <;> rfl
    rw [this]
    exact .bl _
  unfold inA at h
  split at h
  · rename_i es
    obtain ⟨h1 | h1, q⟩ := h
    · exact .inl (g_in neg H ow n x y t _ Q Qv rx ry ⟨h1, q⟩ k)
    · have p1 : (D.nd .tup es).pl 64 = true := by simpa [D.pl] using h1.2
      have hy := ry.rd
      have d1 := Rp.dp (n := 64) (.nd .tup es) hy p1
      have s1 := D.pl_shaped p1 (Nat.le_refl _)
      refine .inr (.inl ⟨t.d.py, Dspy es, rx.rd.dp _ h1.1, by simpa [D.py] using d1, D.pl_shaped h1.1 (by decide), by simpa [D.py] using s1, k _ _ H ow Stp.refl (Tq.fz_.mpr ?_) q⟩)
      rw [pl_any h1.1 es h1.2]
      exact .bl _
  · exact dd h
  · exact dd h
  · exact dd h
  · exact dd h
  · exact .inl (g_in neg H ow n x y t _ Q Qv rx ry h k)
def rLenB (K : PySem.W.Frag) : List V → Hp → VK → Prop := fun xs H Q => rLenAll K xs H Q ∨ ∃ p kvs, xs = [.ref p] ∧ H p = some (.dK kvs) ∧ Q (.int kvs.length) H
theorem c_lenB {X : Cx} : CallR X (.builtin "len") (rLenB X.K) := by
  intro pins s σ H xs us Q I r h
  rcases h with h | ⟨p, kvs, e, c, q⟩
  · exact c_len pins s σ H xs us Q I r h
  · subst e
    obtain ⟨u, rfl, ru⟩ := vals1 r
    cases ru
    exact d_len I (.inl c) fun t s' I' => ⟨.int kvs.length, H, I', ⟨t, rfl⟩, q⟩
def lenA (t : T) (Q : T → Prop) : Prop := match t with
  | .fz (.nd (.dK ks) ds) => Q (.fz (.int ks.length))
  | .ow (.dK ks) ds => Q (.fz (.int ks.length))
  | t => lenG t Q
theorem g_lenB {K : PySem.W.Frag} : Op1 K (fun x H Q => rLenB K [x] H Q) lenA := by
  intro H ow n x t Q Qv rx h k
  have dd : ∀ {ks : List Key} {ds : List D}, shK t = some (ks, ds) → Q (.fz (.int ks.length)) → rLenB K [x] H Qv := fun {ks ds} e q => by
    obtain ⟨a, vs, rfl, c, hl, hz, r⟩ := rx.dK e
    refine .inr ⟨a, _, rfl, c, k _ _ H ow Stp.refl (Tq.fz_.mpr ?_) q⟩
    rw [List.length_zip, ← hl, Nat.min_self]
    exact .int _
  unfold lenA at h
  split at h
  · exact dd rfl h
  · exact dd rfl h
  · exact .inl (g_len H ow n x t Q Qv rx h k)
section
variable {X : Cx} {W : WX} {M Ma Mb : List Nat} {a b : Expr} {pa pb : SemP} {ra rb : Option Nat} {pos : Pos}
theorem q_ixA (hu : X.A.units + 65 < cLine) (ha : QP X W Ma ra a pa) (hb : QP X W Mb rb b pb) (hs : PlainIx b := by exact fun _ _ => rfl) (hr : okR ra Mb = true := by decide) : QE X W (Ma ++ Mb) (.Subscript a b pos) (s2 pa pb ixA) := q_ixR (ix_all hu) g_ixA ha hb hs hr
theorem q_inA (hu : X.A.units + 65 < cLine) (ha : QP X W Ma ra a pa) (hb : QP X W Mb rb b pb) (hr : okR ra Mb = true := by decide) (hm : behindInMarks .In b = false := by rfl) : QE X W (Ma ++ Mb) (.Compare a [.In] [b] pos) (s2 pa pb (inA false)) := q_cmp (op_inB hu) (g_inA false) ha hb hm hr
theorem q_niA (hu : X.A.units + 65 < cLine) (ha : QP X W Ma ra a pa) (hb : QP X W Mb rb b pb) (hr : okR ra Mb = true := by decide) (hm : behindInMarks .NotIn b = false := by rfl) : QE X W (Ma ++ Mb) (.Compare a [.NotIn] [b] pos) (s2 pa pb (inA true)) := q_cmp (op_niB hu) (g_inA true) ha hb hm hr
theorem t_inA (hu : X.A.units + 65 < cLine) (ha : QP X W Ma ra a pa) (hb : QP X W Mb rb b pb) (hr : okR ra Mb = true := by decide) (hm : behindInMarks .In b = false := by rfl) : QT X W (Ma ++ Mb) (.Compare a [.In] [b] pos) (sT (s2 pa pb (inA false))) := t_cmpR (op_inB hu) (g_inA false) ha hb hm hr
theorem t_niA (hu : X.A.units + 65 < cLine) (ha : QP X W Ma ra a pa) (hb : QP X W Mb rb b pb) (hr : okR ra Mb = true := by decide) (hm : behindInMarks .NotIn b = false := by rfl) : QT X W (Ma ++ Mb) (.Compare a [.NotIn] [b] pos) (sT (s2 pa pb (inA true))) := t_cmpR (op_niB hu) (g_inA true) ha hb hm hr
end
end QV

set_option Elab.async false
set_option linter.all false
set_option maxRecDepth 100000
set_option maxHeartbeats 2000000
namespace QV
open PySem PySem.Spec PyProof.Rows L2
inductive LcT (g : SemG) (t : SemT) (q : SemE) (vs : List Nat) (Q : T → Env → Prop) (ds : List D) (env1 : Env) : Prop
  | mk (h : ∃ I : Nat → List T → Env → Prop, I 0 [] env1 ∧
  (∀ j d acc env', ds[j]? = some d → I j acc env' → g d (wipeE env' vs) fun env2 => t env2 (fun b env3 => (b = true → q env3 (fun w env4 => I (j + 1) (acc ++ [w]) (rstE env' vs env4)) noX) ∧ (b = false → I (j + 1) acc (rstE env' vs env3))) noX) ∧ ∀ acc env', I ds.length acc env' → Q (.nd .lst acc) env')
  | no (h : False)
theorem LcT.ex {g : SemG} {t : SemT} {q : SemE} {vs : List Nat} {Q : T → Env → Prop} {ds : List D} {env1 : Env} : LcT g t q vs Q ds env1 → ∃ I : Nat → List T → Env → Prop, I 0 [] env1 ∧
  (∀ j d acc env', ds[j]? = some d → I j acc env' → g d (wipeE env' vs) fun env2 => t env2 (fun b env3 => (b = true → q env3 (fun w env4 => I (j + 1) (acc ++ [w]) (rstE env' vs env4)) noX) ∧ (b = false → I (j + 1) acc (rstE env' vs env3))) noX) ∧ ∀ acc env', I ds.length acc env' → Q (.nd .lst acc) env'
  | .mk h => h
  | .no h => h.elim
def sLcT (qi : SemI) (g : SemG) (t : SemT) (q : SemE) (vs : List Nat) : SemE := fun env Q E => qi env (fun ds env1 => LcT g t q vs Q ds env1) E
theorem LcT.fr {g : SemG} {t : SemT} {q : SemE} {vs : List Nat} {Q : T → Env → Prop} {ds : List D} {env : Env} (ms : List Nat) (I : Nat → List T → List (Option T) → Prop) (h0 : ∃ us, env = putE env ms us ∧ I 0 [] us)
    (hs : ∀ j d acc us, ds[j]? = some d → I j acc us → g d (wipeE (putE env ms us) vs) fun env2 => t env2 (fun b env3 => (b = true → q env3 (fun w env4 => ∃ us', rstE (putE env ms us) vs env4 = putE env ms us' ∧ I (j + 1) (acc ++ [w]) us') noX) ∧ (b = false → ∃ us', rstE (putE env ms us) vs env3 = putE env ms us' ∧ I (j + 1) acc us')) noX) (he : ∀ acc us, I ds.length acc us → Q (.nd .lst acc) (putE env ms us)) : LcT g t q vs Q ds env :=
  .mk ⟨fun j acc e => ∃ us, e = putE env ms us ∧ I j acc us, h0, fun j d acc env' hd ⟨us, e, i⟩ => by subst e; exact hs j d acc us hd i, fun acc env' ⟨us, e, i⟩ => by subst e; exact he acc us i⟩
theorem lcT_run {K : PySem.W.Frag} {W : WX} {Mi Mt Me SS vs : List Nat} {qi : SemI} {g : SemG} {t : SemT} {q : SemE} (hs : ∀ i ∈ SS, i ∈ vs) (hv : ∀ i ∈ vs, i ∉ Mt ++ Me) {σ : L2.St} {H : Hp} {Qv : VK} (h : tQ K W (Mi ++ (Mt ++ Me)) (sLcT qi g t q vs) σ H Qv) :
    tLc (tI K W Mi qi) (tG K SS g) (tT K W0 Mt t) (tQ K W0 Me q) vs σ H Qv := by
  obtain ⟨n, ow, env, Q, E, s, hq, k, x⟩ := h
  refine ⟨n, ow, env, _, E, s, hq, fun J ds H1 ow1 env1 y1 s1 o1 J1 hI => ?_, fun r d H' ow' env' y s' o => x r d H' ow' env' (y.mono subl (Nat.le_refl _)) s' (o.mono subl)⟩
  obtain ⟨I, i0, it, ie⟩ := hI.ex
  intro D hD
  have key : ∀ {H' : Hp} {ow' : Ow}, Stp (Mi ++ (Mt ++ Me)) n H1 ow1 H' ow' → Stp (Mi ++ (Mt ++ Me)) n H ow H' ow' := fun y => y1.trans y subl (fun _ h => h) (Nat.le_refl _) (Nat.le_refl _)
  refine ⟨fun j m H' => m = ds.length - j ∧ j ≤ ds.length ∧ ∃ ow' env' acc us, Stp (Mi ++ (Mt ++ Me)) n H1 ow1 H' ow' ∧ StOk K H' ow' σ env' ∧ Out (Mi ++ (Mt ++ Me)) env1 env' ∧ H' D = some (.lst us) ∧ ow' D = .tm n ∧ (∃ S, Tps K H' ow' (.tm n) us acc S ∧ ¬ S D) ∧ us.length ≤ j ∧ I j acc env',
    ⟨ds.length, by simp, Nat.zero_le _, Ow.put ow1 D (.tm n), env1, [], [], Stp.new hD, s1.stp0 (n := 0) (Stp.new hD), Out.refl, upd_same, put_same, ⟨_, .nil, fun h => h.elim⟩, Nat.le_refl _, i0⟩, ?_⟩
  rintro j m H' ⟨rfl, hj, ow', env', acc, us, y', s', o', hDl, hDo, hr, hl, ij⟩
  by_cases hlt : j < ds.length
  · have hd : ds[j]? = some ds[j] := by simp [hlt]
    refine .inr ⟨J1.go j _ H' ow' y'.fs hd, fun H5 => ∃ ow5 env5 acc5 us5, Stp (Mi ++ (Mt ++ Me)) n H1 ow1 H5 ow5 ∧ StOk K H5 ow5 σ env5 ∧ Out (Mi ++ (Mt ++ Me)) env1 env5 ∧ H5 D = some (.lst us5) ∧ ow5 D = .tm n ∧ (∃ S, Tps K H5 ow5 (.tm n) us5 acc5 S ∧ ¬ S D) ∧ us5.length ≤ j + 1 ∧ I (j + 1) acc5 env5,
      fun H5 ⟨ow5, env5, acc5, us5, q5⟩ => ⟨ds.length - (j + 1), by omega, rfl, hlt, ow5, env5, acc5, us5, q5⟩, fun xv H2 yl => ?_⟩
    obtain ⟨ow2, ex, rx⟩ := J1.yld j _ H' ow' xv H2 y'.fs hd yl
    have y2 : Stp (Mi ++ (Mt ++ Me)) n H' ow' H2 ow2 := ex.stp
    have s2 : StOk K H2 ow2 σ env' := s'.stp0 (n := 0) ex.stp
    refine ⟨ow2, wipeE env' vs, _, _, s2.wipe, rx, it j _ acc env' hd ij, fun σ3 env3 tc oT s3 z3 => ?_⟩
    refine ⟨wipe_tch tc hs, n + 1, ow2, env3, _, noX, s3, z3, fun b H3 ow3 env4 y3 s4 o4 z4 => ?_, xk0⟩
    have hD2 := (ex D _ hDl)
    have hD3 := y3 D _ hD2.1 (by rw [hD2.2, hDo]; exact Nat.lt_succ_self n)
    have hDo3 : ow3 D = .tm n := by rw [hD3.2, hD2.2, hDo]
    have same3 : Same (Bs H' ow') (Bs H3 ow3) := fun a o e => y3.bs a o (y2.bs a o e)
    have y2a : Stp (Mt ++ Me) (n + 1) H' ow' H2 ow2 := ex.stp
    have y3a : Stp (Mt ++ Me) (n + 1) H' ow' H3 ow3 := y2a.trans y3 (fun _ h => h) subl (Nat.le_refl _) (Nat.le_refl _)
    obtain ⟨S, hS, hSD⟩ := hr
    have carry : ∀ {H5 : Hp} {ow5 : Ow}, Stp (Mt ++ Me) (n + 1) H' ow' H5 ow5 → ∃ S, Tps K H5 ow5 (.tm n) us acc S ∧ ¬ S D := fun {H5 ow5} y => ⟨S, hS.car y.bs fun a o _ ea eo => (y.car (l := .tm n) (Nat.lt_succ_self n)).own a o ea eo, hSD⟩
    have y23 : Stp (Mi ++ (Mt ++ Me)) n H' ow' H3 ow3 := y2.trans y3 (fun _ h => h) mem3.2.1 (Nat.le_refl _) (Nat.le_succ _)
    have outs : ∀ {e5 : Env} {H5 : Hp} {ow5 : Ow}, Out (Mt ++ Me) env3 e5 → StOk K H5 ow5 σ3 e5 → Out (Mi ++ (Mt ++ Me)) env1 (rstE env' vs e5) := fun {e5 H5 ow5} oo ss => by
      refine ⟨?_, fun i hi => ?_⟩
      · rw [rstE_len, ss.len, tc.len, wipe_length, ← s'.len, o'.len]
      · rw [← o'.eq i hi]
        by_cases hiv : i ∈ vs
        · by_cases hil : i < env'.length
          · have : ∀ {vs : List Nat}, i ∈ vs → (rstE env' vs e5)[i]? = some ((env'[i]?).getD none) := fun {vs} hm => by
              induction vs with
              | nil => simp at hm
              | cons v vs ih =>
                unfold rstE
                by_cases hv2 : v = i
                · subst hv2
                  exact List.getElem?_set_self (by rw [rstE_len, ss.len, tc.len, wipe_length, ← s'.len]; exact hil)
                · rw [List.getElem?_set_ne hv2]
                  exact ih ((List.mem_cons.mp hm).resolve_left fun z => hv2 z.symm)
            rw [this hiv]
            have e : env'[i]? = some env'[i] := by simp [hil]
            rw [e]
            rfl
          · rw [List.getElem?_eq_none (by rw [rstE_len, ss.len, tc.len, wipe_length, ← s'.len]; omega), List.getElem?_eq_none (by omega)]
        · rw [rstE_out hiv, oo.eq i fun z => hi (subr i z)]
          rw [oT.eq i fun z => hiv (hs i z)]
          exact wipeE_out hiv
    have carV : ∀ {H5 : Hp} {ow5 : Ow}, Stp (Mt ++ Me) (n + 1) H2 ow2 H5 ow5 → ∀ i ∈ vs, Car H2 H5 ow2 ow5 (.sl i) (.sl i) := fun {H5 ow5} yy i hi => yy.car (l := .sl i) (hv i hi)
    cases b with
    | false =>
      refine iteF ?_
      have y3' : Stp (Mt ++ Me) (n + 1) H2 ow2 H3 ow3 := y3.mono subl (Nat.le_refl _)
      exact ⟨ow3, _, acc, us, y'.trans y23 (fun _ h => h) (fun _ h => h) (Nat.le_refl _) (Nat.le_refl _), s2.rst s4 tc hs (carV y3'), outs (o4.mono subl) s4, hD3.1, hDo3, carry y3a, Nat.le_succ_of_le hl, z4.2 rfl⟩
    | true =>
      refine iteT ?_
      refine ⟨n + 1, ow3, env4, _, noX, s4, z4.1 rfl, fun v w H4 ow4 env5 y4 s5 o5 r4 z5 => ?_, xk0⟩
      obtain ⟨S1, r4⟩ := r4
      have hD4 := y4 D _ hD3.1 (by rw [hDo3]; exact Nat.lt_succ_self n)
      have hDo4 : ow4 D = .tm n := by rw [hD4.2, hDo3]
      have y4a : Stp (Mt ++ Me) (n + 1) H' ow' H4 ow4 := y3a.trans y4 (fun _ h => h) subr (Nat.le_refl _) (Nat.le_refl _)
      have same4 : Same (Bs H' ow') (Bs H4 ow4) := fun a o e => y4.bs a o (same3 a o e)
      have oD : Ow.one ow4 n D = .tm n := one_tm hDo4 (Nat.le_refl n)
      have yu : Stp (Mt ++ Me) n H4 ow4 (upd H4 D (.lst (us ++ [v]))) (Ow.one ow4 n) := fun a o ea pa => by
        have ne : a ≠ D := fun z => by
          rw [z, hDo4] at pa
          exact absurd pa (Nat.lt_irrefl n)
        exact ⟨by rw [upd_ne ne]; exact ea, one_ne fun k z => by rw [z] at pa; exact pa⟩
      have y34 : Stp (Mt ++ Me) (n + 1) H2 ow2 H4 ow4 := y3.trans y4 subl subr (Nat.le_refl _) (Nat.le_refl _)
      have y25 : Stp (Mt ++ Me) n H2 ow2 (upd H4 D (.lst (us ++ [v]))) (Ow.one ow4 n) := y34.trans yu (fun _ h => h) (fun _ h => h) (Nat.le_succ _) (Nat.le_refl _)
      have s5u : StOk K (upd H4 D (.lst (us ++ [v]))) (Ow.one ow4 n) σ3 env5 := ⟨s5.len, fun i t e => by
        obtain ⟨w, e1, r⟩ := s5.at_ i t e
        refine ⟨w, e1, Car.tq ⟨yu.bs, fun a o ea eo => ?_⟩ r⟩
        have ne : a ≠ D := fun z => by
          rw [z, hDo4] at eo
          cases eo
        exact ⟨by rw [upd_ne ne]; exact ea, by rw [one_ne fun k z => by rw [eo] at z; cases z]; exact eo⟩⟩
      have carU : ∀ i ∈ vs, Car H2 (upd H4 D (.lst (us ++ [v]))) ow2 (Ow.one ow4 n) (.sl i) (.sl i) := fun i hi => ⟨y25.bs, fun a o ea eo => by
        obtain ⟨e1, e2⟩ := y34 a o ea (by rw [eo]; exact hv i hi)
        have e3 : ow4 a = .sl i := e2.trans eo
        have ne : a ≠ D := fun z => by
          rw [z, hDo4] at e3
          cases e3
        exact ⟨by rw [upd_ne ne]; exact e1, by rw [one_ne fun k z => by rw [e3] at z; cases z]; exact e3⟩⟩
      have yall : Stp (Mi ++ (Mt ++ Me)) n H1 ow1 (upd H4 D (.lst (us ++ [v]))) (Ow.one ow4 n) := (y'.trans y2 (fun _ h => h) (fun _ h => h) (Nat.le_refl _) (Nat.le_refl _)).trans y25 (fun _ h => h) subr (Nat.le_refl _) (Nat.le_refl _)
      have hS4 : Tps K H4 ow4 (.tm n) us acc S := hS.car y4a.bs fun a o _ ea eo => (y4a.car (l := .tm n) (Nat.lt_succ_self n)).own a o ea eo
      have d1 : ∀ b, S1 b → b ≠ D := fun b hb z => by
        have := (r4.there b hb).1
        rw [z, hDo4] at this
        have := Lab.tm.inj this
        omega
      have t1 : Tps K (upd H4 D (.lst (us ++ [v]))) (Ow.one ow4 n) (.tm n) us acc S := hS4.car yu.bs fun a o sa ea eo => ⟨by rw [upd_ne (show a ≠ D from fun z => hSD (by rw [← z]; exact sa))]; exact ea, one_tm eo (Nat.le_refl n)⟩
      have t2 : Tp K (upd H4 D (.lst (us ++ [v]))) (Ow.one ow4 n) (.tm n) v w S1 := r4.car yu.bs fun a o sa ea eo => ⟨by rw [upd_ne (d1 a sa)]; exact ea, one_tm eo (Nat.le_succ n)⟩
      obtain ⟨S', t3, h3⟩ := Tps.snoc t1 t2 fun b hb z => by
        have e1 := (r4.there b hb).1
        have e2 := (hS4.there b z).1
        rw [e1] at e2
        have := Lab.tm.inj e2
        omega
      exact ⟨us, hD4.1, Nat.lt_of_le_of_lt hl (Nat.lt_of_lt_of_le hlt J1.sz), Ow.one ow4 n, _, acc ++ [w], us ++ [v], yall, s2.rst s5u tc hs carU, outs (o4.trans o5 subl subr) s5, upd_same, oD, ⟨S', t3, fun z => by
        rcases h3 D z with z | z
        · exact hSD z
        · exact d1 D z rfl⟩, by rw [List.length_append]; simpa using hl, z5⟩
  · have e : j = ds.length := by omega
    subst e
    obtain ⟨S, hS, hSD⟩ := hr
    exact .inl ⟨J1.stop H' ow' y'.fs, k (.ref D) (.nd .lst acc) H' ow' env' (key y') s' (o1.trans o' subl (fun _ h => h)) ⟨_, .nd (dx := D) ⟨hDl, Nat.le_trans hl J1.sz, trivial⟩ (fun b fb => by
      have eb : b = D := fb
      rw [eb]; exact ⟨hDo, hSD⟩) hS⟩ (ie acc env' ij)⟩
section
variable {X : Cx} {W : WX} {Mi Mt Me M IO SS : List Nat} {elt tg iter e : Expr} {ifs : List Expr} {scope : Scope} {own : List (Str × Nat)} {pos spos py : Pos} {qi : SemI} {g : SemG} {t : SemT} {q : SemE} {y : Str} {i : Nat}
theorem q_lcT (hc : X.calm = true) (hN : X.N.Nodup) (hi : QI X W Mi tg iter qi) (ok : BlkOk X.N X.env.scope scope own)
    (hg : ∀ (s : Shared) (H : Hp) (C : Addr) (cl : List (Str × Addr)) (fp : List Addr), QG (X.blk s H scope (compEnvC scope cl C X.env) fp) SS tg g) (ht : ∀ (s : Shared) (H : Hp) (C : Addr) (cl : List (Str × Addr)) (fp : List Addr), QTs (X.blk s H scope (compEnvC scope cl C X.env) fp) W0 Mt ifs t)
    (he : ∀ (s : Shared) (H : Hp) (C : Addr) (cl : List (Str × Addr)) (fp : List Addr), QE (X.blk s H scope (compEnvC scope cl C X.env) fp) W0 Me elt q) (hs : ∀ i ∈ SS, i ∈ own.map (·.2) := by decide) (hv : ∀ i ∈ own.map (·.2), i ∉ Mt ++ Me := by decide)
    (hf : ∀ x, foldedSetIterable iter X.env x = pure x := by intro _; rfl) : QE X W (Mi ++ (Mt ++ Me)) (.ListComp elt [⟨tg, iter, ifs, 0⟩] scope pos) (sLcT qi g t q (own.map (·.2))) :=
  ⟨PE_imp (pe_lc hc hN hi.run ok (fun s H C cl fp => (hg s H C cl fp).run) (fun s H C cl fp => (ht s H C cl fp).run) (fun s H C cl fp => (he s H C cl fp).run) hf) fun _ _ _ h => lcT_run hs hv h⟩
theorem s_setLcT (i : Nat) (hc : X.calm = true) (hN : X.N.Nodup) (hi : QI X W Mi tg iter qi) (ok : BlkOk X.N X.env.scope scope own)
    (hg : ∀ (s : Shared) (H : Hp) (C : Addr) (cl : List (Str × Addr)) (fp : List Addr), QG (X.blk s H scope (compEnvC scope cl C X.env) fp) SS tg g) (ht : ∀ (s : Shared) (H : Hp) (C : Addr) (cl : List (Str × Addr)) (fp : List Addr), QTs (X.blk s H scope (compEnvC scope cl C X.env) fp) W0 Mt ifs t)
    (he : ∀ (s : Shared) (H : Hp) (C : Addr) (cl : List (Str × Addr)) (fp : List Addr), QE (X.blk s H scope (compEnvC scope cl C X.env) fp) W0 Me elt q) (hy : X.N[i]? = some y := by rfl) (hyl : X.env.scope.names.lookup y = some .local := by rfl)
    (hsw : swapsWith (.ListComp elt [⟨tg, iter, ifs, 0⟩] scope pos) (some (.Name y py)) spos.line X.env = pure true := by exact sw_true rfl rfl rfl (by decide +kernel)) (hs : ∀ i ∈ SS, i ∈ own.map (·.2) := by decide) (hv : ∀ i ∈ own.map (·.2), i ∉ Mt ++ Me := by decide) (hio : i ∉ IO := by decide)
    (hf : ∀ x, foldedSetIterable iter X.env x = pure x := by intro _; rfl) : QS X W IO (.Assign [.Name y py] (.ListComp elt [⟨tg, iter, ifs, 0⟩] scope pos) spos) (sSet i (sLcT qi g t q (own.map (·.2)))) :=
  ⟨PS_imp (ps_setLc hc hN hy hyl hsw hi.run ok (fun s H C cl fp => (hg s H C cl fp).run) (fun s H C cl fp => (ht s H C cl fp).run) (fun s H C cl fp => (he s H C cl fp).run) hf) fun _ _ _ h => set_run (M := Mi ++ (Mt ++ Me)) hio h fun _ z => lcT_run hs hv z⟩
end
end QV

set_option Elab.async false
set_option linter.all false
set_option maxRecDepth 100000
set_option maxHeartbeats 2000000
namespace QV
open PySem PySem.Spec PyProof.Rows L2
def hasK (ks : List Key) (k : Key) : Bool := ks.any fun x => decide (x = k)
def putKs (ks : List Key) (k : Key) : List Key := if hasK ks k = true then ks else ks ++ [k]
def putVs {α : Type} (ks : List Key) (vs : List α) (k : Key) (v : α) : List α := if hasK ks k = true then (ks.zip vs).map (fun p => if p.1 = k then v else p.2) else vs ++ [v]
theorem zip_any {α : Type} {k : Key} : ∀ {ks : List Key} {vs : List α}, ks.length = vs.length → ((ks.zip vs).any fun kv => decide (kv.1 = k)) = hasK ks k
  | [], [], _ => rfl
  | k0 :: ks, v0 :: vs, h => by
    have ih := zip_any (k := k) (ks := ks) (vs := vs) (by simpa using h)
    unfold hasK at ih ⊢
    rw [List.zip_cons_cons, List.any_cons, List.any_cons, ih]
theorem zip_map {α : Type} {k : Key} {v : α} : ∀ {ks : List Key} {vs : List α}, ks.length = vs.length → (ks.zip vs).map (fun kv => if kv.1 = k then (kv.1, v) else kv) = ks.zip ((ks.zip vs).map fun p => if p.1 = k then v else p.2)
  | [], [], _ => rfl
  | k0 :: ks, v0 :: vs, h => by
    rw [List.zip_cons_cons, List.map_cons, List.map_cons, List.zip_cons_cons, zip_map (by simpa using h)]
    by_cases e : k0 = k <;> simp [e]
theorem put_zip {k : Key} {ks : List Key} {vs : List V} {v : V} (h : ks.length = vs.length) : putK (ks.zip vs) k v = (putKs ks k).zip (putVs ks vs k v) := by
  unfold putK putKs putVs
  rw [zip_any h]
  by_cases e : hasK ks k = true
  · rw [if_pos e, if_pos e, if_pos e]
    exact zip_map h
  · rw [if_neg e, if_neg e, if_neg e, List.zip_append h]
    rfl
theorem put_len {α : Type} {k : Key} {ks : List Key} {vs : List α} {v : α} (h : ks.length = vs.length) : (putKs ks k).length = (putVs ks vs k v).length := by
  unfold putKs putVs
  by_cases e : hasK ks k = true
  · rw [if_pos e, if_pos e, List.length_map, List.length_zip]; omega
  · rw [if_neg e, if_neg e, List.length_append, List.length_append, h]; rfl
section
variable {K : PySem.W.Frag} {B H : Hp} {ow : Ow} {σ : L2.St} {env : Env} {i n : Nat}
theorem rps_map {k : Key} {v : V} {d : D} (rv : Rp K B v d) : ∀ {ks : List Key} {vs : List V} {ds : List D}, Rps K B vs ds → Rps K B ((ks.zip vs).map fun p => if p.1 = k then v else p.2) ((ks.zip ds).map fun p => if p.1 = k then d else p.2)
  | [], _, _, _ => by simp; exact .nil
  | k0 :: ks, [], [], .nil => by simp; exact .nil
  | k0 :: ks, _ :: _, _ :: _, .cons r s => by
    rw [List.zip_cons_cons, List.zip_cons_cons, List.map_cons, List.map_cons]
    refine .cons ?_ (rps_map rv s)
    by_cases e : k0 = k
    · simp only [e, if_true]; exact rv
    · simp only [e, if_false]; exact r
theorem rps_put {k : Key} {v : V} {d : D} {ks : List Key} {vs : List V} {ds : List D} (rv : Rp K B v d) (r : Rps K B vs ds) : Rps K B (putVs ks vs k v) (putVs ks ds k d) := by
  unfold putVs
  by_cases e : hasK ks k = true
  · rw [if_pos e, if_pos e]; exact rps_map rv r
  · rw [if_neg e, if_neg e]; exact r.app (.cons rv .nil)
theorem own_atK {ks : List Key} {ds : List D} (s : StOk K H ow σ env) (e : env[i]? = some (some (.ow (.dK ks) ds))) : ∃ a vs, σ[i]? = some (some (.ref a)) ∧ H a = some (.dK (ks.zip vs)) ∧ ks.length = vs.length ∧ vs.length ≤ sizeLine ∧ Rps K (Bs H ow) vs ds ∧ ow a = .sl i := by
  obtain ⟨v, e1, S, r⟩ := s.at_ i _ e
  cases r with
  | ow c f r => exact ⟨_, _, e1, c.at_, c.fit, c.sz, r, f _ rfl⟩
theorem own_setK {a : Addr} {ks' : List Key} {ds' : List D} {vs' : List V} (s : StOk K H ow σ env) (e1 : σ[i]? = some (some (.ref a))) (eo : ow a = .sl i) (hz : vs'.length ≤ sizeLine) (hf : ks'.length = vs'.length) (r : Rps K (Bs H ow) vs' ds') :
    Stp [i] n H ow (upd H a (.dK (ks'.zip vs'))) ow ∧ StOk K (upd H a (.dK (ks'.zip vs'))) ow σ (env.set i (some (.ow (.dK ks') ds'))) ∧ Out [i] env (env.set i (some (.ow (.dK ks') ds'))) := by
  have y : ∀ {m : Nat}, Stp [i] m H ow (upd H a (.dK (ks'.zip vs'))) ow := fun {m} b o e q => by
    have ne : b ≠ a := fun z => by
      rw [z, eo] at q
      exact absurd (show i ∈ [i] by simp) q
    exact ⟨by rw [upd_ne ne]; exact e, rfl⟩
  refine ⟨y, s.stp (y (m := 0)) Out.set1 fun j t hj e => ?_, Out.set1⟩
  have ej : j = i := by simpa using hj
  subst ej
  have hl : j < env.length := by
    rw [s.len]
    exact (List.getElem?_eq_some_iff.mp e1).1
  rw [List.getElem?_set_self hl] at e
  cases e
  exact ⟨_, e1, _, .ow (k := .dK ks') (dx := a) ⟨upd_same, hz, hf⟩ (fun b fb => by
    have eb : b = a := fb
    rw [eb]; exact eo) (r.mono (y (m := 0)).bs)⟩
end
def isDct : Option (Option T) → Bool
  | some (some (.ow (.dK _) _)) => true
  | _ => false
def sDSt (i : Nat) (q qi : SemE) : SemS := fun D env => q env (fun t env1 => match t with
  | .fz d => isDct env1[i]? = true ∧ qi env1 (fun u env2 => match u, env2[i]? with
    | .fz (.int k), some (some (.ow (.dK ks) ds)) => ks.length < sizeLine ∧ D.nx (env2.set i (some (.ow (.dK (putKs ks (.inl k))) (putVs ks ds (.inl k) d))))
    | _, _ => False) D.ex
  | _ => False) D.ex
section
variable {X : Cx} {W : WX} {Ma Mb IO : List Nat} {e ix : Expr} {q qi : SemE} {x : Str} {px tpos pos : Pos}
theorem ty_dct {K : PySem.W.Frag} {H : Hp} {ow : Ow} {σ : L2.St} {env : Env} {i : Nat} (s : StOk K H ow σ env) (h : isDct env[i]? = true) : ∃ a : Addr, σ[i]? = some (some (.ref a)) := by
  unfold isDct at h
  split at h
  · rename_i ks ds e
    obtain ⟨a, _, e1, _⟩ := own_atK s e
    exact ⟨a, e1⟩
  · cases h
theorem s_dput (i : Nat) (hu : X.A.units + 65 < cLine) (he : QE X W Ma e q) (hix : QE X W Mb ix qi) (hN : X.N[i]? = some x := by rfl) (hv : Vis X.env.scope x := by first | exact Or.inl rfl | exact Or.inr (Or.inl rfl) | exact Or.inr (Or.inr rfl)) (hd : (x == ("__debug__" : Str)) = false := by decide)
    (hcd : (x == ("__classdict__" : Str)) = false := by decide) (hs : swapsWith e (some (.Subscript (.Name x px) ix tpos)) pos.line X.env = pure false := by rfl) : QS X W IO (.Assign [.Subscript (.Name x px) ix tpos] e pos) (sDSt i q qi) :=
  ⟨PS_imp (ps_dput (by omega) (pe_var (i := i) hN hv hd hcd) hix.run he.run hs) fun D σ H ⟨ow, env, De, s, hq, k⟩ => ⟨0, ow, env, _, De.ex, s, hq, fun v t H1 ow1 env1 y1 s1 _ r1 z => by
    split at z
    · rename_i d
      obtain ⟨hl, z⟩ := z
      obtain ⟨a, e1⟩ := ty_dct s1 hl
      refine ⟨.ref a, e1, 1, ow1, env1, _, De.ex, s1, z, fun w u H2 ow2 env2 y2 s2 _ r2 z2 => ?_, (k.ex.step y1.fs Ios.refl).xk⟩
      split at z2
      · rename_i kk ks ds e2
        obtain ⟨hj, z2⟩ := z2
        obtain ⟨a', us, e3, c, hf, hz, rr, eo⟩ := own_atK s2 e2
        rw [e1] at e3
        cases e3
        have ew := Tq.rd r2
        cases ew
        have rd := (Tq.fz_.mp r1).mono y2.bs
        have hlen := put_len (k := .inl kk) (v := v) hf
        refine ⟨a, _, rfl, DPut.k (k := .inl kk) c (by rw [List.length_zip]; omega), ?_⟩
        rw [put_zip hf]
        obtain ⟨y3, s3, _⟩ := own_setK (n := 0) (ks' := putKs ks (.inl kk)) s2 e1 eo (by
          rw [← hlen]; unfold putKs
          split
          · omega
          · rw [List.length_append]; exact hj) hlen (rps_put rd rr)
        exact k.nx _ _ _ _ ((y1.fs.trans y2.fs).trans y3.fs) Ios.refl s3 z2
      · exact z2.elim
    · exact z.elim, k.ex.xk⟩⟩
end
end QV

set_option Elab.async false
set_option linter.all false
set_option maxRecDepth 100000
set_option maxHeartbeats 2000000
namespace QV
open PySem PySem.Spec PyProof.Rows L2
def dd (ns : List Int) : List Int := PyProof.Rows.firstMet (fun i => ns.getD i 0) ns.length
section
variable {X : Cx} {W : WX} {M : List Nat} {root : Option Nat} {pa : SemP}
def tLenSet (K : PySem.W.Frag) (ta : TE) : TE := fun σ H Q => ta σ H fun x H1 => ∃ (l : Addr) (ns : List Int), x = V.ref l ∧ SqL K H1 l (ns.map V.int) ∧ ns.length ≤ 4000 ∧ Q (.int (dd ns).length) H1
theorem pe_lenSet {a : Expr} {ta : TE} {p p2 q pos : Pos} (hc : X.calm = true) (hg : Gl X "len") (hm : X.mg "len" = none) (hg2 : Gl X "set") (hm2 : X.mg "set" = none) (ha : PE X a ta)
    (na : starEach [a] X.env = (false, eval a X.env) :: starEach [] X.env := by rfl) : PE X (.Call (.Name "len" p) [.Call (.Name "set" p2) [a] [] q] [] pos) (tLenSet X.K ta) := by
  refine ⟨fun pins s σ H Q I h => ?_⟩
  refine Call_ (ld_blt I hg hm PySem.boot_len ?_)
  refine PyProof.Rows.callWith_builtin1 (PyProof.Rows.args_cons ?_ rfl) rfl rfl
  refine Call_ (ld_blt I hg2 hm2 PyProof.Rows.boot_set ?_)
  refine PyProof.Rows.callWith_type1 (PyProof.Rows.args_cons (thn (ha.run pins s σ H _ I h) fun v s1 ⟨x, H1, I1, r1, q1⟩ => PyProof.Rows.args_nil ?_) na) na rfl
  obtain ⟨l, ns, rfl, hq, h1, q1⟩ := q1
  cases r1
  obtain ⟨its, r, pl, hz⟩ := I1.list hq
  have hl : its.toArray.size = ns.length := by rw [List.size_toArray, ← r.length, List.length_map]
  refine call_set_list (I1.ok.hd hc) pl.isList (ns := ns) (by simpa using r.ints) (by unfold scanBound; omega) fun h' tk hS hk => ?_
  rw [hl] at hS
  refine PyProof.Rows.args_nil ?_
  obtain ⟨o, es, ep, t, ho, hex, hd, _, _, _, hf, hn⟩ := hS
  have I2 : Inv X pins σ H1 { s1 with heap := h', toks := tk } := I1.kept fun b o e => hk b o (Heap.lt_size e) e
  have hle : (dd ns).length ≤ ns.length := PyProof.Rows.firstMet_length_le _ _
  refine call_len_set ho hex hd hf (by rw [hn] <;> first | (have := hle; unfold dd at this; omega) | omega) ⟨.int (dd ns).length, H1, I2.tok _, ⟨_, by rw [hn]; rfl⟩, q1⟩
def lenSetG (t : T) (Q : T → Prop) : Prop := ∃ ns : List Int, shL t = some (ns.map .int) ∧ ns.length ≤ 4000 ∧ Q (.fz (.int (dd ns).length))
theorem q_lenSet {e : Expr} {p p2 pos pos2 : Pos} (hc : X.calm = true) (hg : Gl X "len") (hm : X.mg "len" = none) (hg2 : Gl X "set") (hm2 : X.mg "set" = none) (ha : QP X W M root e pa)
    (na : starEach [e] X.env = (false, eval e X.env) :: starEach [] X.env := by rfl) : QE X W M (.Call (.Name "len" p) [.Call (.Name "set" p2) [e] [] pos2] [] pos) (s1 pa lenSetG) :=
  ⟨PE_imp (pe_lenSet hc hg hm hg2 hm2 ha.run na) fun σ H Qv ⟨n, ow, env, Q, E, s, hq, k, x⟩ => ⟨n, ow, env, _, E, s, hq, fun v t pt H' ow' env' y1 s' o r ⟨ns, e1, hl, z⟩ => by
    obtain ⟨a, vs, rfl, c, hz, rr⟩ := (r.ro s').lst e1
    have ev := ints_of rr
    subst ev
    exact ⟨a, ns, rfl, .inl (.inl c), hl, k _ _ H' ow' env' y1 s' o (Tq.fz_.mpr (.int _)) z⟩, x⟩⟩
end
end QV

set_option Elab.async false
set_option linter.all false
set_option maxRecDepth 100000
set_option maxHeartbeats 2000000
namespace QV
open PySem L2
theorem rps_any {K : PySem.W.Frag} {H : Hp} {ow : Ow} {l : Lab} : ∀ {vs : List V} {ts : List T} {S : Addr → Prop}, Tps K H ow l vs ts S → ∃ ds, Rps K (Bs H ow) vs ds ∧ ds.length = ts.length
  | _, _, _, .nil => ⟨[], .nil, rfl⟩
  | _, _, _, .cons h s _ => by
    obtain ⟨ds, r, e⟩ := rps_any s
    cases h with
    | fz r0 => exact ⟨_ :: ds, .cons r0 r, by simp [e]⟩
    | ow c f r0 => exact ⟨_ :: ds, .cons (.exc0 _ 0) r, by simp [e]⟩
    | nd c f r0 => exact ⟨_ :: ds, .cons (.exc0 _ 0) r, by simp [e]⟩
def iOwnN (i : Nat) : SemI := fun env Q _ => match env[i]? with
  | some (some (.nd .lst ts)) => ∀ ds : List D, ds.length = ts.length → Q ds env
  | _ => False
theorem i_ownN {X : Cx} {W : WX} {tg : Expr} {x : Str} {px : Pos} (i : Nat) (hN : X.N[i]? = some x := by rfl) (hv : Vis X.env.scope x := by first | exact Or.inl rfl | exact Or.inr (Or.inl rfl) | exact Or.inr (Or.inr rfl)) (hd : (x == ("__debug__" : Str)) = false := by decide)
    (hcd : (x == ("__classdict__" : Str)) = false := by decide) : QIo X W [] i tg (.Name x px) (iOwnN i) :=
  ⟨PI_imp (pi_list (pe_var (i := i) hN hv hd hcd)) fun σ H R ⟨n, ow, env, Q, E, s, hq, k, xx⟩ => by
    unfold iOwnN at hq
    split at hq
    · rename_i ts e
      obtain ⟨v, e1, S, r⟩ := s.at_ i _ e
      cases r with
      | nd c f tp =>
        obtain ⟨ds, rr, el⟩ := rps_any tp
        exact ⟨.ref _, e1, _, rfl, ⟨_, .inl (.inl c.at_)⟩, k _ _ H ow env Stp.refl s Out.refl (itm_list c.at_ c.sz rr (f _ rfl).1) (hq ds el)⟩
    · exact hq.elim⟩
end QV

set_option Elab.async false
set_option linter.all false
set_option maxRecDepth 100000
set_option maxHeartbeats 2000000
namespace L2
open PySem PySem.Spec PyProof.Rows
theorem mergeK_fresh : ∀ (more kvs : List (Key × V)), ((kvs ++ more).map (·.1)).Nodup → mergeK kvs more = kvs ++ more
  | [], kvs, _ => by simp [mergeK]
  | p :: r, kvs, h => by
    have hv : valV kvs p.1 = none := by
      rw [List.map_append, List.map_cons] at h
      have h1 := (List.nodup_append.mp h).2.2
      cases e : valV kvs p.1 with
      | none => rfl
      | some v =>
        exfalso
        have hm : p.1 ∈ kvs.map (·.1) := by
          clear h h1
          induction kvs with
          | nil => cases e
          | cons q kvs ih =>
            by_cases z : q.1 = p.1
            · rw [← z]; simp
            · rw [valV_neg z] at e
              exact List.mem_cons_of_mem _ (ih e)
        exact h1 p.1 hm p.1 (by simp) rfl
    show mergeK (putK kvs p.1 p.2) r = _
    rw [putK_new p.2 hv, mergeK_fresh r (kvs ++ [(p.1, p.2)]) (by simpa using h)]
    simp
theorem mergeK_nil {more : List (Key × V)} (h : (more.map (·.1)).Nodup) : mergeK [] more = more := by
  rw [mergeK_fresh more [] (by simpa using h), List.nil_append]
section
variable {X : Cx}
def rUpd : V → List V → Hp → VK → Prop := fun x xs H Q => ∃ a b kvs more, x = V.ref a ∧ xs = [V.ref b] ∧ a ≠ b ∧ H a = some (.dK kvs) ∧ H b = some (.dK more) ∧ kvs.length + more.length ≤ sizeLine ∧ Q .non (upd H a (.dK (mergeK kvs more)))
theorem mt_upd : MtR X "dict.update" rUpd := by
  intro pins s σ H x xs v us Q I rx rxs h
  obtain ⟨a, b, kvs, more, rfl, rfl, hab, ea, eb, hz, q⟩ := h
  cases rx
  obtain ⟨u, rfl, ru⟩ := vals1 rxs
  cases ru
  obtain ⟨za, hda, va, ra, da⟩ := dk_of I.hok ea
  obtain ⟨zb, hdb, vb, rb, db⟩ := dk_of I.hok eb
  refine call_meetsIn PySem.F.slot_dict_update da.typeIs PySem.F.entry_dict_update (PySem.F.args_dict_update_2 _ _) (meets_dict_update (mixKind X.prog X.w) a b hab hdb) ⟨va, vb, da, db, by rw [← ra.length, ← rb.length]; exact hz, fun h' hd' ho' hs' => ?_⟩
  have he : ∃ q, h'.get? a = some q := let ⟨q, _, _, hq, _⟩ := hd'; ⟨q, hq⟩
  refine ⟨.non, _, d_write (t' := s.toks) I (by rw [ea]; exact True.intro) hs' he (dk_new (Nat.le_trans (length_mergeK more kvs) hz) hda (KV.merge rb ra) hd'), rfl, q⟩
def rSortD : List V → Hp → VK → Prop := fun xs H Q => ∃ (a : Addr) (kvs : List (Key × V)) (ks : List Int), xs = [.ref a] ∧ H a = some (.dK kvs) ∧ kvs.map (·.1) = ks.map Sum.inl ∧
    ∀ (ys : List Int) (p : Addr), ys.Perm ks → ys.Pairwise (· ≤ ·) → H p = none → Q (.ref p) (upd H p (.lst (ys.map V.int)))
theorem cr_sortD (hcalm : X.calm = true) : CallR X (.builtin "sorted") rSortD := by
  intro pins s σ H xs us Q I r q
  obtain ⟨a, kvs, ks, ex, hd, hks, q⟩ := q
  subst ex
  obtain ⟨u, eu, rx⟩ := vals1 r
  subst eu
  cases rx
  obtain ⟨z, lo, vs, rel, dd⟩ := dk_of I.hok hd
  obtain ⟨ep, hat⟩ := dd.dictAt
  have hkeys : vs.map (·.1) = ks.map Sum.inl := rel.keys.symm.trans hks
  have hl : vs.length = ks.length := by
    have e := congrArg List.length hkeys
    rw [List.length_map, List.length_map] at e
    exact e
  have h16 : vs.length ≤ sizeLine := by rw [← rel.length]; exact z
  refine Calls.call_function_entry PyProof.Rows.kind_sorted PyProof.Rows.plain_sorted PyProof.Rows.entry_sorted (PyProof.Rows.args_sorted1 _) ?_
  unfold Builtin.«sorted»
  refine wpAny_bind (m := checkCount "sorted" 1 1 _) (wpAny_pure ?_)
  refine wpAny_bind (PySem.W.kdu_collect (A := X.A.in1) (PySem.W.kdl_dict (knd := mixKind X.prog X.w) (kvs := vs) (ep := ep) lo) (I.ok.hd hcalm) hat h16 fun h' tk acc hk hacc => ?_)
  have hal : acc.toList.length = ks.length := by rw [Array.length_toList, hacc.1, hl]
  have hS : IntsAre acc.toList ks := ints_each hal fun j v e => by
    obtain ⟨k, x, e1, e2⟩ := hacc.2 j v (by rw [← Array.getElem?_toList]; exact e)
    have e3 : (vs.map (·.1))[j]? = some k := by rw [List.getElem?_map, e1]; rfl
    rw [hkeys, List.getElem?_map] at e3
    cases e4 : ks[j]? with
    | none => rw [e4] at e3; cases e3
    | some y =>
      rw [e4] at e3
      have e5 : Sum.inl y = k := Option.some.inj e3
      subst e5
      rcases keyIs_shape (show keyIs (Sum.inl y) v = true from e2) with ⟨i, t, ek, ev⟩ | ⟨z, t, ek, ev⟩
      · cases ek
        exact ⟨y, t, rfl, ev⟩
      · cases ek
  have I1 : Inv X pins σ H { s with heap := h', toks := tk } := I.kept hk
  refine wpAny_bind (wpAny_newList ?_ (by rw [hal, ← hl]; exact h16))
  have hoL : (h'.push (seqObj "list" acc.toList.toArray 0)).get? h'.objs.size = some (seqObj "list" acc.toList.toArray 0) := Heap.get?_push_size _ rfl
  show wpAny _ _ _ _ _ { s with heap := h'.push (seqObj "list" acc.toList.toArray 0), toks := tk }
  refine wpAny_bind (wpAny_holding (wpAny_call_entry PyProof.Rows.slot_list_sort ⟨_, hoL, rfl⟩ PyProof.Rows.entry_list_sort
    (SrtO.list_sort_ord SrtO.swo_int hoL (by rw [hal, ← hl]; exact h16) (fun h2 => SrtO.ints_sortable hS h2) fun out h1 h2 => ⟨_, rfl, ?_⟩) (PyProof.Rows.args_list_sort _)))
  obtain ⟨k1, k2, k3⟩ := SrtO.ints_out hS h1 h2
  obtain ⟨e', he'⟩ := PyProof.Rows.sortedHeap_at (vs := acc.toList) (out := out.toArray) hoL
  have hlen : ((out.map SrtO.iv).map V.int).length ≤ sizeLine := by
    rw [List.length_map, k2.length_eq, ← hl]
    exact h16
  refine wpAny_pure ⟨_, rfl, .ref h'.objs.size, upd H h'.objs.size (.lst ((out.map SrtO.iv).map V.int)), I1.laid (t' := tk) (fun b u e => ?_) (Nat.le_refl _)
    (show ObjOk X.prog X.w _ _ _ (.lst ((out.map SrtO.iv).map V.int)) from ⟨hlen, out, e', vals_of_ints k1, he'⟩), rfl, q _ _ k2 k3 (I1.hok.fresh (Nat.le_refl _))⟩
  have hb : b < h'.objs.size := Heap.lt_size e
  rw [PyProof.Rows.sortedHeap_old (Nat.ne_of_lt hb) (by rw [size_push']; exact Nat.lt_succ_of_lt hb)]
  exact Heap.get?_push_of_some _ e
end
end L2
namespace QV
open PySem PySem.Spec PyProof.Rows L2
def isDT : T → Bool
  | .fz (.nd (.dK _) _) => true
  | .ow (.dK _) _ => true
  | .fz (.nd (.dT _) _) => true
  | .ow (.dT _) _ => true
  | _ => false
theorem isD_of {K : PySem.W.Frag} {H : Hp} {ow : Ow} {x : V} {t : T} (h : Ro K H ow x t) (e : isDT t = true) : ∃ a, x = .ref a ∧ IsD H a := by
  unfold isDT at e
  split at e
  · obtain ⟨a, vs, rfl, c, _⟩ := h.dK rfl; exact ⟨a, rfl, .inl ⟨_, .inl c⟩⟩
  · obtain ⟨a, vs, rfl, c, _⟩ := h.dK rfl; exact ⟨a, rfl, .inl ⟨_, .inl c⟩⟩
  · obtain ⟨a, vs, rfl, c, _⟩ := h.dT rfl; exact ⟨a, rfl, .inr ⟨_, .inl c⟩⟩
  · obtain ⟨a, vs, rfl, c, _⟩ := h.dT rfl; exact ⟨a, rfl, .inr ⟨_, .inl c⟩⟩
  · cases e
def sGet1 (pa : SemP) (qb : SemE) : SemE := fun env Q E => pa env (fun t _ env1 => isDT t = true ∧ qb env1 (fun u env2 => ∃ o, dGet t u = some o ∧ Q (.fz (o.getD .non)) env2) E) E
def sGet2 (pa : SemP) (qb qc : SemE) : SemE := fun env Q E => pa env (fun t _ env1 => isDT t = true ∧ qb env1 (fun u env2 => qc env2 (fun w env3 => match w with
  | .fz d => ∃ o, dGet t u = some o ∧ Q (.fz (o.getD d)) env3
  | _ => False) E) E) E
section
variable {X : Cx} {W : WX} {M Ma Mb Mc : List Nat} {o e f : Expr} {pa : SemP} {qb qc : SemE} {ra : Option Nat} {apos cpos : Pos}
theorem q_dget1 (hu : X.A.units + 65 < cLine) (ho : QP X W Ma ra o pa) (he : QE X W Mb e qb) (hr : okR ra Mb = true := by decide) (m : M1 X o "get" apos e cpos := by exact ⟨rfl, rfl, rfl, rfl⟩) : QE X W (Ma ++ Mb) (.Call (.Attribute o "get" apos) [e] [] cpos) (sGet1 pa qb) :=
  ⟨PE_imp (pe_dget1 (by omega) ho.run he.run m) fun σ H Qv ⟨n, ow, env, Q, E, s, hq, k, x⟩ => ⟨n, ow, env, _, E, s, hq, fun v t pt H1 ow1 env1 y1 s1 o1 r1 ⟨hd, z1⟩ => by
    obtain ⟨a, rfl, hD⟩ := isD_of (r1.ro s1) hd
    refine ⟨a, rfl, hD, n + 1, ow1, env1, _, E, s1, z1, fun w u H2 ow2 env2 y2 s2 o2 r2 z2 => ?_, x.step y1 o1 subl subr (Nat.le_refl _) (Nat.le_succ _)⟩
    obtain ⟨o, eo, q⟩ := z2
    obtain ⟨a', r, ea, g, _, hr'⟩ := dget_of ((r1.stp y2 o2 hr (Nat.lt_succ_self _)).ro s2) ⟨_, r2⟩ eo
    cases ea
    refine ⟨r, g, k _ (.fz (o.getD .non)) H2 ow2 env2 (y1.trans y2 subl subr (Nat.le_refl _) (Nat.le_succ _)) s2 (o1.trans o2 subl subr) (Tq.fz_.mpr ?_) q⟩
    rcases hr' with ⟨rfl, rfl⟩ | ⟨d, v, rfl, rfl, rv⟩
    · exact .non
    · exact rv, fun r d H' ow' env' y s' o => x r d H' ow' env' (y.mono subl (Nat.le_refl _)) s' (o.mono subl)⟩⟩
theorem q_dget2 (hu : X.A.units + 65 < cLine) (ho : QP X W Ma ra o pa) (he : QE X W Mb e qb) (hf : QE X W Mc f qc) (hr : okR ra (Mb ++ Mc) = true := by decide) (m : M2 X o "get" apos e f cpos := by exact ⟨rfl, rfl, rfl, rfl⟩) : QE X W (Ma ++ (Mb ++ Mc)) (.Call (.Attribute o "get" apos) [e, f] [] cpos) (sGet2 pa qb qc) :=
  ⟨PE_imp (pe_dget2 (by omega) ho.run he.run hf.run m) fun σ H Qv ⟨n, ow, env, Q, E, s, hq, k, x⟩ => ⟨n, ow, env, _, E, s, hq, fun v t pt H1 ow1 env1 y1 s1 o1 r1 ⟨hd, z1⟩ => by
    obtain ⟨a, rfl, hD⟩ := isD_of (r1.ro s1) hd
    have x1 : Xk X.K W (Mb ++ Mc) σ H1 (n + 1) ow1 env1 E := x.step y1 o1 subl subr (Nat.le_refl _) (Nat.le_succ _)
    refine ⟨a, rfl, hD, n + 1, ow1, env1, _, E, s1, z1, fun w u H2 ow2 env2 y2 s2 o2 r2 z2 => ?_, fun r d H' ow' env' y s' o => x1 r d H' ow' env' (y.mono subl (Nat.le_refl _)) s' (o.mono subl)⟩
    refine ⟨n + 2, ow2, env2, _, E, s2, z2, fun w3 u3 H3 ow3 env3 y3 s3 o3 r3 z3 => ?_, x1.step y2 o2 subl subr (Nat.le_refl _) (Nat.le_succ _)⟩
    split at z3
    · rename_i d
      obtain ⟨o, eo, q⟩ := z3
      have y23 : Stp (Mb ++ Mc) (n + 1) H1 ow1 H3 ow3 := y2.trans y3 subl subr (Nat.le_refl _) (Nat.le_succ _)
      have o23 : Out (Mb ++ Mc) env1 env3 := o2.trans o3 subl subr
      obtain ⟨a', r, ea, g, _, hr'⟩ := dget_of ((r1.stp y23 o23 hr (Nat.lt_succ_self _)).ro s3) ⟨_, (y3.car (l := .tm (n + 1)) (Nat.lt_succ_self _)).tq r2⟩ eo
      cases ea
      refine ⟨r, g, k _ (.fz (o.getD d)) H3 ow3 env3 (y1.trans y23 subl subr (Nat.le_refl _) (Nat.le_succ _)) s3 (o1.trans o23 subl subr) (Tq.fz_.mpr ?_) q⟩
      rcases hr' with ⟨rfl, rfl⟩ | ⟨d', v, rfl, rfl, rv⟩
      · exact Tq.fz_.mp r3
      · exact rv
    · exact z3.elim, fun r d H' ow' env' y s' o => x r d H' ow' env' (y.mono subl (Nat.le_refl _)) s' (o.mono subl)⟩⟩
end
abbrev SemPr := Env → (List Key → List D → Env → Prop) → XQ → Prop
def tPr (K : PySem.W.Frag) (W : WX) (M : List Nat) (q : SemPr) (σ : L2.St) (H : Hp) (Qv : List (V × V) → Hp → Prop) : Prop := ∃ (n : Nat) (ow : Ow) (env : Env) (Q : List Key → List D → Env → Prop) (E : XQ), StOk K H ow σ env ∧ q env Q E ∧
  (∀ (vs : List V) (ks : List Key) (ds : List D) (H' : Hp) (ow' : Ow) (env' : Env), Stp M n H ow H' ow' → StOk K H' ow' σ env' → Out M env env' → ks.length = vs.length → Rps K (Bs H' ow') vs ds → Q ks ds env' → Qv ((ks.map kV).zip vs) H') ∧ Xk K W M σ H n ow env E
structure QPr (X : Cx) (W : WX) (M : List Nat) (pos : Pos) (ks : List (Option Expr)) (vs : List Expr) (q : SemPr) : Prop where
  run : ∃ trs, PPs X pos ks vs trs ∧ ∀ σ H Qv, tPr X.K W M q σ H Qv → tPairs trs σ H Qv
def sPrN : SemPr := fun env Q _ => Q [] [] env
def sPrC (qk qv : SemE) (qr : SemPr) : SemPr := fun env Q E => qk env (fun t env1 => match keyD t.d with
  | some k => (∃ d, t = .fz d) ∧ qv env1 (fun u env2 => match u with
    | .fz e => qr env2 (fun ks ds env3 => Q (k :: ks) (e :: ds) env3) E
    | _ => False) E
  | none => False) E
def sDis (q : SemPr) : SemE := fun env Q E => q env (fun ks ds env1 => (ks.Nodup ∧ ks.length ≤ 15) ∧ Q (.ow (.dK ks) ds) env1) E
section
variable {X : Cx} {W : WX} {M Ma Mb Mc : List Nat} {o e f : Expr} {ks : List (Option Expr)} {vs : List Expr} {qk qv : SemE} {qr : SemPr} {pos : Pos}
theorem pr_nil : QPr X W [] pos [] [] sPrN := ⟨[], pps_nil, fun σ H Qv ⟨n, ow, env, Q, E, s, hq, k, x⟩ => k [] [] [] H ow env Stp.refl s Out.refl rfl .nil hq⟩
theorem pr_cons (hk : QE X W Ma e qk) (hv : QE X W Mb f qv) (hr : QPr X W Mc pos ks vs qr) : QPr X W (Ma ++ (Mb ++ Mc)) pos (some e :: ks) (f :: vs) (sPrC qk qv qr) := by
  obtain ⟨trs, hp, ht⟩ := hr
  refine ⟨_, pps_cons hk.run hv.run hp, fun σ H Qv ⟨n, ow, env, Q, E, s, hq, k, x⟩ => ⟨n, ow, env, _, E, s, hq, fun v t H1 ow1 env1 y1 s1 o1 r1 z1 => ?_, fun r d H' ow' env' y s' o => x r d H' ow' env' (y.mono subl (Nat.le_refl _)) s' (o.mono subl)⟩⟩
  split at z1
  · rename_i key ek
    obtain ⟨⟨d0, rfl⟩, z1⟩ := z1
    have x1 : Xk X.K W (Mb ++ Mc) σ H1 (n + 1) ow1 env1 E := x.step y1 o1 subl subr (Nat.le_refl _) (Nat.le_succ _)
    refine ⟨n + 1, ow1, env1, _, E, s1, z1, fun w u H2 ow2 env2 y2 s2 o2 r2 z2 => ?_, fun r d H' ow' env' y s' o => x1 r d H' ow' env' (y.mono subl (Nat.le_refl _)) s' (o.mono subl)⟩
    split at z2
    · rename_i d
      refine ht σ H2 _ ⟨n + 2, ow2, env2, _, E, s2, z2, fun vs ks ds H3 ow3 env3 y3 s3 o3 hl rr z3 => ?_, x1.step y2 o2 subl subr (Nat.le_refl _) (Nat.le_succ _)⟩
      have y23 : Stp (Mb ++ Mc) (n + 1) H1 ow1 H3 ow3 := y2.trans y3 subl subr (Nat.le_refl _) (Nat.le_succ _)
      have o23 : Out (Mb ++ Mc) env1 env3 := o2.trans o3 subl subr
      have ev := rp_key (Tq.fz_.mp r1) ek
      subst ev
      have := k (w :: vs) (key :: ks) (d :: ds) H3 ow3 env3 (y1.trans y23 subl subr (Nat.le_refl _) (Nat.le_succ _)) s3 (o1.trans o23 subl subr) (by simp [hl]) (.cons ((Tq.fz_.mp r2).mono y3.bs) rr) z3
      simpa using this
    · exact z2.elim
  · exact z1.elim
theorem q_dis (h : QPr X W M pos ks vs qr) (hall : ks.all (·.isSome) = true := by rfl) (hl : ks.length = vs.length := by rfl) (h0 : ks ≠ [] := by exact fun z => nomatch z) (h15 : ks.length ≤ 15 := by decide) : QE X W M (.Dict ks vs pos) (sDis qr) := by
  obtain ⟨trs, hp, ht⟩ := h
  refine ⟨PE_imp (pe_disp hp hall hl h0 h15) fun σ H Qv ⟨n, ow, env, Q, E, s, hq, k, x⟩ p hpn => ?_⟩
  have y0 : ∀ {m}, Stp ([] : List Nat) m H ow (upd H p (.dK [])) (Ow.put ow p (.tm n)) := fun {m} => Stp.new hpn
  refine ht σ _ _ ⟨n + 1, _, env, _, E, s.stp0 (n := 0) y0, hq, fun vs ks ds H2 ow2 env2 y2 s2 o2 hlen rr z2 => ?_, x.step (n1 := n) (M1 := []) y0 Out.refl nilsub (fun _ h => h) (Nat.le_refl _) (Nat.le_succ _)⟩
  obtain ⟨e2, f2⟩ := y2 p _ upd_same (by rw [put_same]; exact Nat.lt_succ_self n)
  rw [put_same] at f2
  obtain ⟨⟨hnd, h15'⟩, z2⟩ := z2
  have hl2 : (ks.zip vs).map (·.1) = ks := by rw [List.map_fst_zip]; omega
  have y3 : ∀ {M'}, Stp M' n H2 ow2 (upd H2 p (.dK (ks.zip vs))) ow2 := fun {M'} b o e q => by
    have ne : b ≠ p := fun z => by
      rw [z, f2] at q
      exact Nat.lt_irrefl n q
    exact ⟨by rw [upd_ne ne]; exact e, rfl⟩
  refine ⟨e2, ks.zip vs, ?_, by rw [List.length_zip]; omega, ?_⟩
  · clear z2 rr hnd hl2 y3 h15'
    induction ks generalizing vs with
    | nil => rfl
    | cons a ks ih =>
      cases vs with
      | nil => simp at hlen
      | cons b vs =>
        simp only [List.map_cons, List.zip_cons_cons]
        rw [ih vs (by simpa using hlen)]
  · rw [mergeK_nil (by rw [hl2]; exact hnd)]
    exact k _ _ _ ow2 env2 (((y0 (m := n)).trans y2 nilsub (fun _ h => h) (Nat.le_refl _) (Nat.le_succ _)).trans (M := M) (y3 (M' := [])) (fun _ h => h) nilsub (Nat.le_refl _) (Nat.le_refl _)) (s2.stp0 y3) o2 ⟨_, .ow (k := .dK ks) (dx := p) ⟨upd_same, by rw [← hlen]; exact Nat.le_trans h15' (by decide), hlen⟩ (fun b fb => by
      have eb : b = p := fb
      rw [eb]; exact f2) (rr.mono (y3 (M' := [])).bs)⟩ z2
end
def mrgKs (ks ls : List Key) : List Key := ls.foldl putKs ks
def mrg {α : Type} : List Key → List α → List Key → List α → List Key × List α
  | ks, vs, l :: ls, w :: ws => mrg (putKs ks l) (putVs ks vs l w) ls ws
  | ks, vs, _, _ => (ks, vs)
theorem mrg_zip : ∀ {ls : List Key} {ws : List V} {ks : List Key} {vs : List V}, ks.length = vs.length → mergeK (ks.zip vs) (ls.zip ws) = (mrg ks vs ls ws).1.zip (mrg ks vs ls ws).2
  | [], ws, ks, vs, h => by simp [mergeK, mrg]
  | l :: ls, [], ks, vs, h => by simp [mergeK, mrg]
  | l :: ls, w :: ws, ks, vs, h => by
    rw [List.zip_cons_cons]
    show mergeK (putK (ks.zip vs) l w) (ls.zip ws) = _
    rw [put_zip h, mrg_zip (put_len h)]
    rfl
theorem mrg_len {α : Type} : ∀ {ls : List Key} {ws : List α} {ks : List Key} {vs : List α}, ks.length = vs.length → (mrg ks vs ls ws).1.length = (mrg ks vs ls ws).2.length
  | [], ws, ks, vs, h => by simpa [mrg] using h
  | l :: ls, [], ks, vs, h => by simpa [mrg] using h
  | l :: ls, w :: ws, ks, vs, h => by
    simp only [mrg]
    exact mrg_len (put_len h)
theorem mrg_keys {α β : Type} : ∀ {ls : List Key} {ws : List α} {xs : List β} {ks : List Key} {vs : List α} {us : List β}, ws.length = xs.length → (mrg ks vs ls ws).1 = (mrg ks us ls xs).1
  | [], ws, xs, ks, vs, us, h => rfl
  | l :: ls, [], [], ks, vs, us, h => rfl
  | l :: ls, w :: ws, x :: xs, ks, vs, us, h => by
    simp only [mrg]
    exact mrg_keys (Nat.succ.inj h)
  | l :: ls, [], _ :: _, ks, vs, us, h => by simp at h
  | l :: ls, _ :: _, [], ks, vs, us, h => by simp at h
theorem rps_mrg {K : PySem.W.Frag} {B : Hp} : ∀ {ls : List Key} {ws : List V} {es : List D} {ks : List Key} {vs : List V} {ds : List D}, Rps K B ws es → Rps K B vs ds → Rps K B (mrg ks vs ls ws).2 (mrg ks ds ls es).2
  | [], ws, es, ks, vs, ds, h, r => by simpa [mrg] using r
  | l :: ls, [], [], ks, vs, ds, .nil, r => by simpa [mrg] using r
  | l :: ls, w :: ws, e :: es, ks, vs, ds, .cons r1 h, r => by
    simp only [mrg]
    exact rps_mrg h (rps_put r1 r)
theorem putKs_len (ks : List Key) (k : Key) : (putKs ks k).length ≤ ks.length + 1 := by
  unfold putKs; split
  · omega
  · simp
theorem mrg_le {α : Type} : ∀ {ls : List Key} {ws : List α} {ks : List Key} {vs : List α}, (mrg ks vs ls ws).1.length ≤ ks.length + ls.length
  | [], ws, ks, vs => by simp [mrg]
  | l :: ls, [], ks, vs => by simp [mrg]
  | l :: ls, w :: ws, ks, vs => by
    have := mrg_le (ls := ls) (ws := ws) (ks := putKs ks l) (vs := putVs ks vs l w)
    have := putKs_len ks l
    simp only [mrg, List.length_cons]; omega
def sDUpd (i : Nat) (qs : SemD) : SemE := fun env Q E => isDct env[i]? = true ∧ qs env (fun ds env1 => match ds, env1[i]? with
  | [.nd (.dK ls) es], some (some (.ow (.dK ks) ds)) => ks.length + ls.length ≤ sizeLine ∧ Q (.fz .non) (env1.set i (some (.ow (.dK (mrg ks ds ls es).1) (mrg ks ds ls es).2)))
  | _, _ => False) E
section
variable {X : Cx} {W : WX} {M : List Nat} {e : Expr} {x : Str} {px : Pos}
theorem q_dupd (i : Nat) {es : List Expr} {ks : List (Option Nat)} {qs : SemD} {apos cpos : Pos} (ha : QA X W M ks (e :: es) qs) (hk : (ks.all fun x => x.isNone) = true := by rfl) (hN : X.N[i]? = some x := by rfl)
    (hv : Vis X.env.scope x := by first | exact Or.inl rfl | exact Or.inr (Or.inl rfl) | exact Or.inr (Or.inr rfl)) (hd : (x == ("__debug__" : Str)) = false := by decide) (hcd : (x == ("__classdict__" : Str)) = false := by decide)
    (hbase : attributeBase (.Name x px) "update" X.env (eval (.Name x px) X.env) = eval (.Name x px) X.env := by rfl)
    (hfew : ((backTo cpos (starEach (e :: es) X.env)).all (fun x => !x.1) && (backToKw cpos (keywordEach [] X.env)).all (fun x => x.1.isSome)
      && decide ((e :: es).length + ([] : List Keyword).length + (if ([] : List Keyword).isEmpty then 0 else 1) < 30)) = true := by rfl)
    (hline : (apos.endLine == cpos.line) = true := by rfl) (hs : starEach (e :: es) X.env = (false, eval e X.env) :: starEach es X.env := by rfl) (hplain : (backTo cpos (starEach es X.env)).any (·.1) = false := by rfl) :
    QE X W (M ++ [i]) (.Call (.Attribute (.Name x px) "update" apos) (e :: es) [] cpos) (sDUpd i qs) :=
  ⟨PE_imp (pe_bm PySem.F.plainAttrs_dict PySem.F.slot_dict_update PySem.F.type_dict_update mt_upd (pe_var (i := i) hN hv hd hcd) ha.run hbase hfew hline hs hplain) fun σ H Qv ⟨n, ow, env, Q, E, s, ⟨h1, hq⟩, k, xx⟩ => by
    obtain ⟨a, e1⟩ := ty_dct s h1
    have ty : tyV X.K "dict" (.ref a) H := by
      unfold isDct at h1
      split at h1
      · rename_i e
        obtain ⟨a', vs', e1', c', _⟩ := own_atK s e
        rw [e1] at e1'
        cases e1'
        exact .inr (.inr (.inl ⟨rfl, .inl ⟨_, c'⟩⟩))
      · cases h1
    refine ⟨.ref a, e1, ty, tA_data hk s hq (fun r d H' ow' env' y s' o => xx r d H' ow' env' (y.mono subl (Nat.le_refl _)) s' (o.mono subl)) fun vs ds H1 ow1 env1 y1 s1 o1 l1 rr z => ?_⟩
    split at z
    · rename_i ls es' ks' ds' ee
      obtain ⟨hz, z⟩ := z
      obtain ⟨a', us, e2, c, hf, hz1, r1, eo⟩ := own_atK s1 ee
      rw [e1] at e2
      cases e2
      cases rr with
      | cons rv rn =>
        cases rn
        obtain ⟨b, ws, rfl, cb, hfb, hzb, rb⟩ := Ro.dK (t := .fz (.nd (.dK ls) es')) ⟨.fr, Tq.fz_.mpr rv⟩ rfl
        have ob : ow1 b = .base := by
          cases rv with
          | cell _ c _ => exact (bs_some c.at_).1
        have hab : a ≠ b := fun z => by rw [z, ob] at eo; cases eo
        refine ⟨a, b, _, _, rfl, rfl, hab, c, cb, by rw [List.length_zip, List.length_zip]; omega, ?_⟩
        rw [mrg_zip hf]
        have hk1 : (mrg ks' us ls ws).1 = (mrg ks' ds' ls es').1 := mrg_keys rb.len
        have hl := mrg_len (ls := ls) (ws := ws) hf
        have hle := mrg_le (ls := ls) (ws := ws) (ks := ks') (vs := us)
        rw [hk1] at hl hle ⊢
        obtain ⟨y3, s3, o3⟩ := own_setK (n := n) (ks' := (mrg ks' ds' ls es').1) (ds' := (mrg ks' ds' ls es').2) s1 e1 eo (by rw [← hl]; omega) hl (rps_mrg rb r1)
        exact k _ _ _ _ _ (y1.trans y3 subl subr (Nat.le_refl _) (Nat.le_refl _)) s3 (o1.trans o3 subl subr) (Tq.fz_.mpr .non) z
    · exact z.elim⟩
end
def sortDG (t : T) (Q : T → Prop) : Prop := ∃ (ks : List Int) (ds : List D), shK t = some (ks.map Sum.inl, ds) ∧ ∀ ms : List Int, ms.Perm ks → ms.Pairwise (· ≤ ·) → Q (.ow .lst (ms.map .int))
def pairsD : List D → Option (List Key × List D)
  | [] => some ([], [])
  | .nd .tup [a, b] :: ds => match keyD a, pairsD ds with
    | some k, some (ks, es) => some (k :: ks, b :: es)
    | _, _ => none
  | _ => none
def dictPG (t : T) (Q : T → Prop) : Prop := match t with
  | .fz (.nd .lst ps) => ∃ ks ds, pairsD ps = some (ks, ds) ∧ Q (.ow (.dK (mrg [] ([] : List D) ks ds).1) (mrg [] ([] : List D) ks ds).2)
  | .ow .lst ps => ∃ ks ds, pairsD ps = some (ks, ds) ∧ Q (.ow (.dK (mrg [] ([] : List D) ks ds).1) (mrg [] ([] : List D) ks ds).2)
  | _ => False
section
variable {K : PySem.W.Frag} {B : Hp}
theorem pairs_rep : ∀ {vs : List V} {ps : List D} {ks : List Key} {ds : List D}, Rps K B vs ps → pairsD ps = some (ks, ds) → ∃ (as : List Addr) (ws : List V), vs = as.map V.ref ∧ ks.length = ws.length ∧ as.length = ks.length ∧ Rps K B ws ds ∧ Paired (fun p (kv : Key × V) => SqT K B p [kV kv.1, kv.2]) as (ks.zip ws)
  | _, _, ks, ds, .nil, h => by cases h; exact ⟨[], [], rfl, rfl, rfl, .nil, .nil⟩
  | _, _, ks, ds, .cons (v := v) (d := d) (vs := vs) (ds := es) r s, h => by
    unfold pairsD at h
    split at h
    · rename_i hh; cases hh
    · rename_i a b ds' hh
      cases hh
      split at h
      · rename_i k ks' es' e1 e2
        cases h
        obtain ⟨as, ws, rfl, hl, hl2, rr, pp⟩ := pairs_rep s e2
        cases r with
        | tup c z r0 =>
          cases r0 with
          | cons ra rb =>
            cases rb with
            | cons rb rn =>
              cases rn
              have ek := rp_key ra e1
              subst ek
              exact ⟨_ :: as, _ :: ws, rfl, by simp [hl], by simp [hl2], .cons rb rr, .cons (sqT_of c) pp⟩
        | cell hn _ _ => exact absurd rfl hn
      · cases h
    · cases h
end
section
variable {X : Cx} {W : WX} {M : List Nat} {e : Expr} {pa : SemP} {root : Option Nat} {p pos : Pos}
theorem g_sortD {K : PySem.W.Frag} : Op1 K (fun x H Q => rSortD [x] H Q) sortDG := by
  intro H ow n x t Q Qv rx ⟨ks, ds, e1, h⟩ k
  obtain ⟨a, vs, rfl, c, hl, hz, r⟩ := rx.dK e1
  refine ⟨a, _, ks, rfl, c, by rw [List.map_fst_zip (by omega)], fun ys p hp hs hn => ?_⟩
  have hln : (ys.map V.int).length ≤ sizeLine := by rw [List.length_map, hp.length_eq, ← List.length_map (f := (Sum.inl : Int → Key)), hl]; exact hz
  exact k _ _ _ (Ow.put ow p (.tm n)) (Stp.new hn) (Tq.newL hn hln (of_ints ys)) (h ys hp hs)
theorem g_dictP {K : PySem.W.Frag} : Op1 K (fun x H Q => ∃ (a : Addr) (ps : List Addr) (kvs : List (Key × V)), [x] = [V.ref a] ∧ SqL K H a (ps.map V.ref) ∧ Paired (fun p kv => SqT K H p [kV kv.1, kv.2]) ps kvs ∧
    ∀ p, H p = none → Q (.ref p) (upd H p (.dK (mergeK [] kvs)))) dictPG := by
  intro H ow n x t Q Qv rx h k
  have key : ∀ {ps : List D}, shL t = some ps → (∃ ks ds, pairsD ps = some (ks, ds) ∧ Q (.ow (.dK (mrg [] ([] : List D) ks ds).1) (mrg [] ([] : List D) ks ds).2)) → ∃ (a : Addr) (ps : List Addr) (kvs : List (Key × V)), [x] = [V.ref a] ∧ SqL K H a (ps.map V.ref) ∧ Paired (fun p kv => SqT K H p [kV kv.1, kv.2]) ps kvs ∧
    ∀ p, H p = none → Qv (.ref p) (upd H p (.dK (mergeK [] kvs))) := fun {ps} e1 ⟨ks, ds, e2, q⟩ => by
    obtain ⟨a, vs, rfl, c, hz, rr⟩ := rx.lst e1
    obtain ⟨as, ws, rfl, hl, hl2, rd, pp⟩ := pairs_rep rr e2
    refine ⟨a, as, ks.zip ws, rfl, .inl (.inl c), ?_, fun p hn => ?_⟩
    · clear e2 q hz rr c hl2 rd hl k h e1 rx
      generalize ks.zip ws = kw at pp ⊢
      induction pp with
      | nil => exact .nil
      | cons h t ih => exact .cons (sqT_mono (bs_same H ow) h) ih
    · have e0 : mergeK [] (ks.zip ws) = (mrg [] ([] : List V) ks ws).1.zip (mrg [] ([] : List V) ks ws).2 := mrg_zip (ks := []) (vs := []) rfl
      rw [e0, mrg_keys (us := ([] : List D)) (xs := ds) rd.len]
      have hl3 := mrg_len (α := V) (ls := ks) (ws := ws) (ks := []) (vs := []) rfl
      have hle := mrg_le (α := V) (ls := ks) (ws := ws) (ks := []) (vs := [])
      rw [mrg_keys (us := ([] : List D)) (xs := ds) rd.len] at hl3 hle
      have y : ∀ {M m}, Stp M m H ow (upd H p (.dK ((mrg [] ([] : List D) ks ds).1.zip (mrg [] ([] : List V) ks ws).2))) (Ow.put ow p (.tm n)) := fun {M m} => Stp.new hn
      refine k _ _ _ (Ow.put ow p (.tm n)) y ⟨_, .ow (k := .dK (mrg [] ([] : List D) ks ds).1) (dx := p) ⟨upd_same, ?_, hl3⟩ (fun b fb => by
        have eb : b = p := fb
        rw [eb]; exact put_same) ((rps_mrg rd .nil).mono (y (M := []) (m := 0)).bs)⟩ q
      rw [List.length_map] at hz
      simp only [List.length_nil] at hle
      omega
  unfold dictPG at h
  split at h
  · exact key rfl h
  · exact key rfl h
  · exact h.elim
theorem q_sortD (hc : X.calm = true) (hg : Gl X "sorted") (hm : X.mg "sorted" = none) (ha : QP X W M root e pa) (hs : starEach [e] X.env = (false, eval e X.env) :: starEach [] X.env := by rfl) (hpl : (backTo pos (starEach [] X.env)).any (·.1) = false := by rfl) :
    QE X W M (.Call (.Name "sorted" p) [e] [] pos) (s1 pa sortDG) := q_b1 (cr_sortD hc) g_sortD hg hm bt_sorted ha (by decide) (by decide) hs hpl
theorem q_dictP (hc : X.calm = true) (hg : Gl X "dict") (hm : X.mg "dict" = none) (ha : QP X W M root e pa) (hs : starEach [e] X.env = (false, eval e X.env) :: starEach [] X.env := by rfl) (hpl : (backTo pos (starEach [] X.env)).any (·.1) = false := by rfl) :
    QE X W M (.Call (.Name "dict" p) [e] [] pos) (s1 pa dictPG) := q_ty1 (call_dictP hc) g_dictP hg hm (by decide +kernel) ha (by decide) (by decide) hs hpl
end
end QV

set_option Elab.async false
set_option linter.all false
set_option maxRecDepth 100000
set_option maxHeartbeats 2000000
namespace QV
open PySem PySem.Spec PyProof.Rows L2
open Classical in
noncomputable def Ow.mvS (ow : Ow) (S : Addr → Prop) (l : Lab) : Ow := fun b => if S b then l else ow b
theorem mvS_in {ow : Ow} {S : Addr → Prop} {l : Lab} {b : Addr} (h : S b) : Ow.mvS ow S l b = l := if_pos h
theorem mvS_out {ow : Ow} {S : Addr → Prop} {l : Lab} {b : Addr} (h : ¬ S b) : Ow.mvS ow S l b = ow b := if_neg h
abbrev SemGT := List T → Env → (Env → Prop) → Prop
def tGT (K : PySem.W.Frag) (SS : List Nat) (g : SemGT) : TGs := fun vs σ H Q => ∃ (ow : Ow) (env : Env) (ts : List T) (S : Addr → Prop) (k : Env → Prop), StOk K H ow σ env ∧ Tps K H ow (.tm 0) vs ts S ∧ g ts env k ∧
  ∀ σ' env' ow', Stp [] 0 H ow H ow' → Tch SS σ σ' → StOk K H ow' σ' env' → k env' → Q σ' H
structure QGT (X : Cx) (SS : List Nat) (tg : List Expr) (g : SemGT) : Prop where
  run : PGs X tg (tGT X.K SS g)
def gtNil : SemGT := fun ts env k => match ts with
  | [] => k env
  | _ => False
def gtCons (i : Nat) (g : SemGT) : SemGT := fun ts env k => match ts with
  | t :: ts => g ts (env.set i (some t)) k
  | _ => False
theorem mvS_stp {H : Hp} {ow : Ow} {S : Addr → Prop} {l : Lab} {M : List Nat} {n : Nat} (h : ∀ b, S b → ow b = .tm n) : Stp M n H ow H (Ow.mvS ow S l) := fun a o e q => by
  refine ⟨e, mvS_out fun z => ?_⟩
  rw [h a z] at q
  exact Nat.lt_irrefl n q
section
variable {X : Cx} {SS S1 S2 IO : List Nat} {es : List Expr} {g : SemGT} {pos : Pos}
theorem gt_nil : QGT X [] [] gtNil := ⟨PGs_imp pgs_nil fun vs σ H Q ⟨ow, env, ts, S, k, s, r, hq, h⟩ => by
  cases r with
  | nil => exact ⟨rfl, h _ _ _ Stp.refl Tch.refl s hq⟩
  | cons _ _ _ => exact hq.elim⟩
theorem gt_cons (i : Nat) {x : Str} {px : Pos} (h2 : QGT X S2 es g) (hN : X.N.Nodup) (hi : X.N[i]? = some x := by rfl) (hx : Loc X.env.scope x := by first | exact Or.inl rfl | exact Or.inr rfl) (hf : X.fn x = true ∨ X.env.scope.names.lookup x = some .local := by first | exact .inl rfl | exact .inr rfl)
    (hs : (assignEach (.Name x px :: es) X.env).map (·.2) = assign (.Name x px) X.env :: (assignEach es X.env).map (·.2) := by rfl) : QGT X ([i] ++ S2) (.Name x px :: es) (gtCons i g) :=
  ⟨PGs_imp (pgs_cons (pg_name (i := i) hN hi hx hf) h2.run hs) fun vs σ H Q ⟨ow, env, ts, S, k, s, r, hq, h⟩ => by
  cases r with
  | nil => exact hq.elim
  | @cons v t vs ts Sa Sb r1 r2 dj =>
    have la : ∀ b, Sa b → ow b = .tm 0 := fun b hb => (r1.there b hb).1
    have bsm : Same (Bs H ow) (Bs H (Ow.mvS ow Sa (.sl i))) := fun a o e => by
      obtain ⟨e1, e2⟩ := bs_some e
      have na : ¬ Sa a := fun z => by rw [la a z] at e1; cases e1
      rw [bs_of ((mvS_out na).trans e1)]
      exact e2
    have r1' : Tp X.K H (Ow.mvS ow Sa (.sl i)) (.sl i) v t Sa := r1.car bsm fun a o hb e _ => ⟨e, mvS_in hb⟩
    have r2' : Tps X.K H (Ow.mvS ow Sa (.sl i)) (.tm 0) vs ts Sb := r2.car bsm fun a o hb e q => ⟨e, (mvS_out fun z => dj a z hb).trans q⟩
    have y : Stp [] 0 H ow H (Ow.mvS ow Sa (.sl i)) := mvS_stp la
    have s1 := (s.stp0 y).set (i := i) ⟨Sa, r1'⟩
    refine ⟨_, _, rfl, _, env.set i (some t), ts, Sb, k, s1, r2', hq, fun σ' env' ow' y2 t2 s2 z => h σ' env' ow' (y.trans y2 nilsub nilsub (Nat.le_refl _) (Nat.le_refl _)) (Tch.trans (⟨List.length_set, fun j hj => List.getElem?_set_ne fun z => hj (by simp [z])⟩) t2 subl subr) s2 z⟩⟩
def sAsgTT (q : SemE) (n : Nat) (g : SemGT) : SemS := fun D env => q env (fun t env1 => match t with
  | .nd .tup ts => ts.length = n ∧ g ts env1 D.nx
  | _ => False) D.ex
def tGTup (K : PySem.W.Frag) (SS : List Nat) (n : Nat) (g : SemGT) : TG := fun v σ H Q => ∃ (ow : Ow) (env : Env) (ts : List T) (k : Env → Prop), StOk K H ow σ env ∧ Tq K H ow (.tm 0) v (.nd .tup ts) ∧ ts.length = n ∧ g ts env k ∧
  ∀ σ' env' ow', Stp [] 0 H ow H ow' → Tch SS σ σ' → StOk K H ow' σ' env' → k env' → Q σ' H
theorem s_asgTT {W : WX} {M : List Nat} {kx} {q : SemE} {e : Expr} {n : Nat} {tpos : Pos} (hc : X.calm = true) (he : QE X W M e q) (hg : QGT X SS es g) (hn : (assignEach es X.env).length = n := by rfl) (hst : (assignEach es X.env).findIdx? (·.1) = none := by rfl) (hio : ∀ i ∈ IO, i ∉ SS := by decide) (hs : swapsWithSole [.Tuple es kx tpos] e pos.line X.env = pure false := by rfl) (hw : swappedStores [.Tuple es kx tpos] e X.env = pure none := by rfl)
    (h1 : (assignEach [.Tuple es kx tpos] X.env).map (·.2) = [assign (.Tuple es kx tpos) X.env] := by rfl) : QS X W IO (.Assign [.Tuple es kx tpos] e pos) (sAsgTT q n g) :=
  ⟨PS_imp (ps_asg he.run (PG_imp (t' := tGTup X.K SS n g) (pg_tup hc hg.run hn hst) fun v σ H Q ⟨ow, env, ts, k, s, r, hl, hq, h⟩ => by
      obtain ⟨S, r⟩ := r
      cases r with
      | nd c f tp => exact ⟨_, _, rfl, sqT_of c.at_, by rw [tp.len]; exact hl, ow, env, ts, _, k, s, tp, hq, h⟩) hs hw h1) fun D σ H ⟨ow, env, De, s, hq, k⟩ =>
  ⟨0, ow, env, _, De.ex, s, hq, fun v t H' ow' env' y s' _ r z => by
    split at z
    · rename_i ts
      exact ⟨ow', env', ts, _, s', r, z.1, z.2, fun σ2 env2 ow2 y2 i2 s2 z2 => k.nx _ _ _ _ (y.fs.trans y2.fs) (i2.ios hio) s2 z2⟩
    · exact z.elim, k.ex.xk⟩⟩
end
end QV

set_option Elab.async false
set_option linter.all false
set_option maxRecDepth 100000
set_option maxHeartbeats 2000000
namespace QV
open PySem PySem.Spec PyProof.Rows L2
def rEqLen (K : PySem.W.Frag) : R2 := fun x y H Q => ∃ a b xs ys, x = .ref a ∧ y = .ref b ∧ SqL K H a xs ∧ SqL K H b ys ∧ xs.length ≠ ys.length ∧ Q (.bl false) H
theorem op_eqLen {X : Cx} (hu : X.A.units + 64 < cLine) : OpR X (compareOp .Eq) (rEqLen X.K) := by
  intro pins s σ H x y v u Q I rx ry h
  obtain ⟨a, b, xs, ys, rfl, rfl, ha, hb, hne, q⟩ := h
  cases rx
  cases ry
  obtain ⟨its, rv, pl, _⟩ := I.list ha
  obtain ⟨its2, rv2, pl2, _⟩ := I.list hb
  refine PySem.SeqAt.eq_list_lengthsAt pl.isList pl2.isList ?_ (by omega) ⟨.bl false, H, I, rfl, q⟩
  have e1 := rv.length
  have e2 := rv2.length
  simp only [bne_iff_ne, ne_eq, List.size_toArray]
  omega
def eqLG (t u : T) (Q : T → Prop) : Prop := eqG false t u Q ∨ ∃ xs ys, shL t = some xs ∧ shL u = some ys ∧ xs.length ≠ ys.length ∧ Q (.fz (.bl false))
theorem g_eqL {K : PySem.W.Frag} : Op2 K (fun x y H Q => rEqAll K x y H Q ∨ rEqLen K x y H Q) eqLG := by
  intro H ow n x y t u Q Qv rx ry h k
  rcases h with h | ⟨xs, ys, e1, e2, hne, q⟩
  · exact .inl (g_eq H ow n x y t u Q Qv rx ry h k)
  · obtain ⟨a, vs, rfl, c, hz, rr⟩ := rx.lst e1
    obtain ⟨b, ws, rfl, c2, hz2, rr2⟩ := ry.lst e2
    exact .inr ⟨a, b, vs, ws, rfl, rfl, .inl (.inl c), .inl (.inl c2), by rw [rr.len, rr2.len]; exact hne, k _ _ H ow Stp.refl (Tq.fz_.mpr (.bl _)) q⟩
section
variable {X : Cx} {W : WX} {Ma Mb : List Nat} {a b : Expr} {pa pb : SemP} {ra rb : Option Nat} {pos : Pos}
theorem q_eqL (hu : X.A.units + 65 < cLine) (ha : QP X W Ma ra a pa) (hb : QP X W Mb rb b pb) (hr : okR ra Mb = true := by decide) : QE X W (Ma ++ Mb) (.Compare a [.Eq] [b] pos) (s2 pa pb eqLG) := q_cmp ((op_eqAll (by omega)).or (op_eqLen (by omega))) g_eqL ha hb (nomark _) hr
theorem t_eqL (hu : X.A.units + 65 < cLine) (ha : QP X W Ma ra a pa) (hb : QP X W Mb rb b pb) (hr : okR ra Mb = true := by decide) : QT X W (Ma ++ Mb) (.Compare a [.Eq] [b] pos) (sT (s2 pa pb eqLG)) := t_cmpR ((op_eqAll (by omega)).or (op_eqLen (by omega))) g_eqL ha hb (nomark _) hr
end
end QV

set_option Elab.async false
set_option linter.all false
set_option maxRecDepth 100000
set_option maxHeartbeats 2000000
namespace QV
open PySem PySem.Spec PyProof.Rows L2
def keyOf : Key → D
  | .inl i => .int i
  | .inr x => .str x
theorem rp_kV {K : PySem.W.Frag} {B : Hp} (k : Key) : Rp K B (kV k) (keyOf k) := by cases k; exact .int _; exact .str _
theorem rps_kV {K : PySem.W.Frag} {B : Hp} : ∀ ks : List Key, Rps K B (ks.map kV) (ks.map keyOf)
  | [] => .nil
  | k :: ks => .cons (rp_kV k) (rps_kV ks)
def listDG (t : T) (Q : T → Prop) : Prop := ∃ ks ds, shK t = some (ks, ds) ∧ Q (.ow .lst (ks.map keyOf))
theorem g_listD {K : PySem.W.Frag} : Op1 K (fun x H Q => ∃ (a : Addr) (kvs : List (Key × V)), [x] = [V.ref a] ∧ Rd H a (.dK kvs) ∧ ∀ p, H p = none → Q (.ref p) (upd H p (.lst (kvs.map fun kv => kV kv.1)))) listDG := by
  intro H ow n x t Q Qv rx ⟨ks, ds, e1, q⟩ k
  obtain ⟨a, vs, rfl, c, hl, hz, r⟩ := rx.dK e1
  refine ⟨a, _, rfl, .inl c, fun p hn => ?_⟩
  have e : (ks.zip vs).map (fun kv => kV kv.1) = ks.map kV := by
    rw [show (fun kv : Key × V => kV kv.1) = kV ∘ Prod.fst from rfl, ← List.map_map, List.map_fst_zip (by omega)]
  rw [e]
  exact k _ _ _ (Ow.put ow p (.tm n)) (Stp.new hn) (Tq.newL hn (by rw [List.length_map, hl]; exact hz) (rps_kV ks)) q
section
variable {X : Cx} {W : WX} {M : List Nat} {e : Expr} {pa : SemP} {root : Option Nat} {p pos : Pos}
theorem q_listD (hc : X.calm = true) (hg : Gl X "list") (hm : X.mg "list" = none) (ha : QP X W M root e pa) (hs : starEach [e] X.env = (false, eval e X.env) :: starEach [] X.env := by rfl) (hpl : (backTo pos (starEach [] X.env)).any (·.1) = false := by rfl) :
    QE X W M (.Call (.Name "list" p) [e] [] pos) (s1 pa listDG) := q_ty1 (call_listD hc) g_listD hg hm (by decide +kernel) ha (by decide) (by decide) hs hpl
end
end QV

set_option Elab.async false
set_option linter.all false
set_option maxRecDepth 100000
set_option maxHeartbeats 2000000
namespace QV
open PySem PySem.Spec PyProof.Rows L2
mutual
def okD : D → Bool
  | .nd .tup ds => okDs ds
  | .nd .lst [] => true
  | .nd .lst (d :: ds) => !flD0 d && okDs (d :: ds)
  | d => flD0 d
def okDs : List D → Bool
  | [] => true
  | d :: ds => okD d && okDs ds
end
def headFlat : T → Bool
  | .ow .lst (u :: _) => flD0 u
  | _ => false
def frB : List (Option Nat) → Env → Bool
  | [], _ => true
  | none :: ks, env => frB ks env
  | some i :: ks, env => (match env[i]? with | some (some u) => headFlat u | _ => false) && frB ks env
theorem frB_at : ∀ {ks : List (Option Nat)} {env : Env} {i : Nat}, frB ks env = true → some i ∈ ks → ∀ u, env[i]? = some (some u) → headFlat u = true
  | none :: ks, env, i, h, hm, u, eu => frB_at (ks := ks) h (by simpa using hm) u eu
  | some k :: ks, env, i, h, hm, u, eu => by
    unfold frB at h
    rw [Bool.and_eq_true] at h
    rcases List.mem_cons.mp hm with z | z
    · cases z
      rw [eu] at h
      exact h.1
    · exact frB_at h.2 z u eu
def vT : T → Bool
  | .fz d => okD d
  | t => ownT t
section
variable {K : PySem.W.Frag} {B B' : Hp}
def badO (o : HO) : Prop := ∃ (v : V) (vs : List V), o = .lst (v :: vs) ∧ ∀ a : Addr, v ≠ .ref a
theorem rp_ref {v : V} {d : D} (r : Rp K B v d) (h : flD0 d = false) : ∃ a, v = .ref a := by
  cases r with
  | non => cases h
  | bl b => cases h
  | int i => cases h
  | str x => cases h
  | _ => exact ⟨_, rfl⟩
theorem rp_nref {v : V} {d : D} (r : Rp K B v d) (h : flD0 d = true) : ∀ a : Addr, v ≠ .ref a := by
  cases r with
  | non => intro a e; cases e
  | bl b => intro a e; cases e
  | int i => intro a e; cases e
  | str x => intro a e; cases e
  | _ => cases h
mutual
theorem rp_keep (e : ∀ a o, B a = some o → ¬ badO o → B' a = some o) : ∀ {v : V} {d : D}, Rp K B v d → okD d = true → Rp K B' v d
  | _, _, .non, _ => .non
  | _, _, .bl b, _ => .bl b
  | _, _, .int i, _ => .int i
  | _, _, .str x, _ => .str x
  | _, _, .scr _, h => by simp [okD, flD0] at h
  | _, _, .exc0 _ _, h => by simp [okD, flD0] at h
  | _, _, .exc1 _ _ _, h => by simp [okD, flD0] at h
  | _, _, .tup c z r, h => .tup (e _ _ c fun ⟨_, _, q, _⟩ => nomatch q) z (rps_keep e r (by simpa [okD] using h))
  | _, _, .cell (k := k) (vs := vs) (ds := ds) hk c r, h => by
    cases k with
    | lst =>
      have hb : ¬ badO (.lst vs) := fun ⟨v0, vs0, q, nr⟩ => by
        have q : vs = v0 :: vs0 := by cases q; rfl
        subst q
        cases r with
        | cons r0 rs =>
          simp only [okD, Bool.and_eq_true, Bool.not_eq_true'] at h
          obtain ⟨a, ea⟩ := rp_ref r0 h.1
          exact nr a ea
      refine .cell hk ⟨e _ _ c.at_ hb, c.sz, trivial⟩ (rps_keep e r ?_)
      cases ds with
      | nil => rfl
      | cons d ds => simp only [okD, Bool.and_eq_true] at h; exact h.2
    | tup => exact absurd rfl hk
    | dK ks => simp [okD, flD0] at h
    | dT ks => simp [okD, flD0] at h
    | ins C ks => simp [okD, flD0] at h
theorem rps_keep (e : ∀ a o, B a = some o → ¬ badO o → B' a = some o) : ∀ {vs : List V} {ds : List D}, Rps K B vs ds → okDs ds = true → Rps K B' vs ds
  | _, _, .nil, _ => .nil
  | _, _, .cons r s, h => by
    simp only [okDs, Bool.and_eq_true] at h
    exact .cons (rp_keep e r h.1) (rps_keep e s h.2)
end
end
def sCallV (spec : SemF) (ks : List (Option Nat)) (qs : SemD) : SemE := fun env Q E => qs env (fun ds env1 => match asmB ks ds env1 with
  | some args => frB ks env1 = true ∧ spec args (fun t outs => vT t = true ∧ Q t env1) (fun _ _ => False)
  | none => False) E
open Classical in
noncomputable def labV (C : Addr → Prop) (ow : Ow) : Ow := fun a => if ow a = .base ∨ C a then .base else .fr
theorem labV_or {C : Addr → Prop} {ow : Ow} {a : Addr} : labV C ow a = .fr ∨ labV C ow a = .base := by
  unfold labV; split
  · exact .inr rfl
  · exact .inl rfl
theorem labV_base {C : Addr → Prop} {ow : Ow} {a : Addr} (h : labV C ow a = .base) : ow a = .base ∨ C a := by
  unfold labV at h; split at h
  · assumption
  · cases h
theorem labV_of {C : Addr → Prop} {ow : Ow} {a : Addr} (h : ow a = .base ∨ C a) : labV C ow a = .base := by
  unfold labV; rw [if_pos h]
section
variable {X : Cx} {W : WX} {M : List Nat} {k : Nat} {f : Addr} {fd : FuncData} {ps : List Str} {io cs : List Nat} {spec : SemF} {ks : List (Option Nat)} {e : Expr} {es : List Expr} {qs : SemD} {x : Str} {p pos : Pos}
theorem callV_run {K : PySem.W.Frag} {n0 : Nat} (hn : ks.length = n0) {σ : L2.St} {H1 : Hp} {Qv : VK} {m : Nat} {ow1 : Ow} {env1 : Env} {Q : T → Env → Prop} {vs : List V} {ds : List D} {args : List T} (s1 : StOk K H1 ow1 σ env1) (l1 : vs.length = ks.length)
    (hv : ∀ (j : Nat) (v : V) (d : D), vs[j]? = some v → ds[j]? = some d → (ks[j]? = some none → Rp K (Bs H1 ow1) v d) ∧ ∀ i, ks[j]? = some (some i) → σ[i]? = some (some v))
    (l2 : ds.length = ks.length) (ha : asmB ks ds env1 = some args) (hfb : frB ks env1 = true) (hs : spec args (fun t outs => vT t = true ∧ Q t env1) (fun _ _ => False))
    (kk : ∀ v t H' ow', Stp [] m H1 ow1 H' ow' → StOk K H' ow' σ env1 → Tq K H' ow' (.tm m) v t → Q t env1 → Qv v H') : spQ K n0 [] spec vs H1 Qv (fun cls d H' => W cls d σ H') := by
  obtain ⟨a1, a2⟩ := asmB_get ha
  obtain ⟨C, hC⟩ : ∃ C : Addr → Prop, C = fun a => ∃ (i : Nat) (w : V) (u : T) (S : Addr → Prop), some i ∈ ks ∧ env1[i]? = some (some u) ∧ Tp K H1 ow1 (.sl i) w u S ∧ S a := ⟨_, rfl⟩
  have bsIn : Same (Bs H1 ow1) (Bs H1 (labV C ow1)) := fun a o e => by
    obtain ⟨e1, e2⟩ := bs_some e
    rw [bs_of (labV_of (.inl e1))]
    exact e2
  refine ⟨by omega, labV C ow1, args, fun t _ => vT t = true ∧ Q t env1, fun _ _ => False, by omega, fun j t et => ?_, hs, fun v t H2 owc outs fs r lo ho ⟨ot, z⟩ => ?_, fun r d H2 owc outs fs rz lo ho z => z.elim⟩
  · have hj : j < vs.length := by have := (List.getElem?_eq_some_iff.mp et).1; omega
    have ev : vs[j]? = some vs[j] := by simp [hj]
    refine ⟨vs[j], ev, ?_⟩
    have hjd : j < ds.length := by omega
    have ed : ds[j]? = some ds[j] := by simp [hjd]
    rcases a2 j t et with ⟨d, ek, ed', rfl⟩ | ⟨i, u, ek, ee, rfl⟩
    · exact Tq.fz_.mpr (((hv j _ d ev ed').1 ek).mono bsIn)
    · have e1 := (hv j _ _ ev ed).2 i ek
      obtain ⟨w, e2, S, r⟩ := s1.at_ i u ee
      rw [e1] at e2
      cases e2
      refine Tq.fz_.mpr (r.all bsIn fun a o hSa h eo => ?_)
      have hm : some i ∈ ks := List.mem_of_getElem? ek
      rw [bs_of (labV_of (.inr (by rw [hC]; exact ⟨i, _, u, S, hm, ee, r, hSa⟩)))]
      exact h
  · have old : ∀ a o, H1 a = some o → H2 a = some o ∧ labBackB m (ow1 a) (H1 a).isSome (owc a) = ow1 a := fun a o e => by
      obtain ⟨e1, e2⟩ := fs a o e labV_or
      refine ⟨e1, ?_⟩
      rw [e2]
      rcases labV_or (C := C) (ow := ow1) (a := a) with q | q
      · rw [q]; rfl
      · rw [q, e]; rfl
    have stp : Stp [] m H1 ow1 H2 (fun a => labBackB m (ow1 a) (H1 a).isSome (owc a)) := fun a o e q => old a o e
    obtain ⟨S, r⟩ := r
    have hf2 : (∃ d, t = .fz d ∧ okD d = true) ∨ ownT t = true := by
      cases t with
      | fz d => exact .inl ⟨d, rfl, ot⟩
      | ow k ds => exact .inr ot
      | nd k ts => exact .inr ot
    rcases hf2 with ⟨d, rfl, od⟩ | ot
    · have rp : Rp K (Bs H2 owc) v d := Tq.fz_.mp ⟨S, r⟩
      refine kk v (.fz d) H2 _ stp (s1.stp0 stp) (Tq.fz_.mpr (rp_keep (fun a o e nb => ?_) rp od)) z
      obtain ⟨q1, q2⟩ := bs_some e
      cases e1 : H1 a with
      | none =>
        rw [bs_of (by show labBackB m (ow1 a) (H1 a).isSome (owc a) = .base; rw [e1, q1]; rfl)]
        exact q2
      | some o1 =>
        obtain ⟨p1, p2⟩ := fs a o1 e1 labV_or
        obtain ⟨_, p3⟩ := old a o1 e1
        rw [q1] at p2
        rcases labV_base p2.symm with b | b
        · rw [bs_of (by rw [p3]; exact b)]
          exact q2
        · exfalso
          rw [hC] at b
          obtain ⟨i, w, u, S', hm, eu, tp, sa⟩ := b
          have hf := frB_at hfb hm u eu
          rw [q2] at p1
          cases p1
          apply nb
          cases tp with
          | fz _ => cases hf
          | nd _ _ _ => cases hf
          | @ow a' dx k vs us c ft rs =>
            cases k with
            | lst =>
              cases rs with
              | nil => cases hf
              | @cons v0 d0 vs0 ds0 r0 rs0 =>
                have hf : flD0 d0 = true := hf
                have sa : a = a' := sa
                subst sa
                have := c.at_
                rw [e1] at this
                cases this
                exact ⟨v0, vs0, rfl, rp_nref r0 hf⟩
            | _ => cases hf
    · exact kk v t H2 _ stp (s1.stp0 stp) ⟨S, Tp.free ot (fun a o _ e eo => ⟨e, by
        show labBackB m (ow1 a) _ (owc a) = .tm m
        rw [eo]; rfl⟩) r⟩ z
theorem q_callV (F : QFn X.prog X.w X.K X.mg X.base k f fd ps [] spec) (tk : L2.Takes X W) (hr : Room k X.A) (hG : X.A.guards = some []) (hg : Gl X x) (hm : X.mg x = some (.ref f)) (hk : PySem.W.keepIn X.K (.ref f) = true) (hb : Binds X.K fd ps [])
    (ha : QA X W M ks (e :: es) qs) (hn : ks.length = ps.length := by rfl) (hdb : (x == ("__debug__" : Str)) = false := by decide) (he : starEach (e :: es) X.env = (false, eval e X.env) :: starEach es X.env := by rfl)
    (hpl : (backTo pos (starEach es X.env)).any (·.1) = false := by rfl) : QE X W M (.Call (.Name x p) (e :: es) [] pos) (sCallV spec ks qs) :=
  ⟨PE_imp (pe_callG F hr hG hg hm hk hb tk ha.run hdb he hpl) fun σ H Qv ⟨n, ow, env, Q, E, st, hq, kk, xx⟩ => ⟨n, ow, env, _, E, st, hq, fun vs ds H1 ow1 env1 y1 s1 o1 l1 l2 hv z => by
    split at z
    · rename_i args ea
      exact callV_run hn s1 l1 hv l2 ea z.1 z.2 fun v t H2 ow2 y2 s2 r2 z2 => kk v t H2 ow2 env1 (y1.trans y2 (fun _ h => h) nilsub (Nat.le_refl _) (Nat.le_refl _)) s2 o1 r2 z2
    · exact z.elim, xx⟩⟩
theorem q_callCV (C : Callee X.prog X.w X.K X.mg X.base k x ps [] spec) (tk : L2.Takes X W) (hr : Room k X.A) (hG : X.A.guards = some []) (hg : Gl X x)
    (ha : QA X W M ks (e :: es) qs) (hn : ks.length = ps.length := by rfl) (hdb : (x == ("__debug__" : Str)) = false := by decide) (he : starEach (e :: es) X.env = (false, eval e X.env) :: starEach es X.env := by rfl)
    (hpl : (backTo pos (starEach es X.env)).any (·.1) = false := by rfl) : QE X W M (.Call (.Name x p) (e :: es) [] pos) (sCallV spec ks qs) :=
  let ⟨_, _, F, hm, hk, hb⟩ := C
  q_callV F tk hr hG hg hm hk hb ha hn hdb he hpl
end
end QV

set_option Elab.async false
set_option linter.all false
set_option maxRecDepth 100000
set_option maxHeartbeats 2000000
namespace QV
open PySem PySem.Spec PyProof.Rows L2
def fldG (C : Addr) (f : Str) (t : T) (Q : T → Prop) : Prop := match t with
  | .fz (.nd (.ins C' ks) ds) => C' = C ∧ ∃ d, (ks.zip ds).lookup f = some d ∧ Q (.fz d)
  | .ow (.ins C' ks) ds => C' = C ∧ ∃ d, (ks.zip ds).lookup f = some d ∧ Q (.fz d)
  | _ => False
theorem look_no {α : Type} {f : Str} : ∀ {ks : List Str} {vs : List α}, ks.contains f = false → (ks.zip vs).lookup f = none
  | [], _, _ => by simp
  | k :: ks, [], _ => by simp
  | k :: ks, v :: vs, h => by
    rw [List.contains_cons, Bool.or_eq_false_iff] at h
    rw [List.zip_cons_cons, List.lookup_cons]
    rw [h.1]
    exact look_no (ks := ks) h.2
section
variable {X : Cx} {W : WX} {M Ma Mb : List Nat} {k : Nat} {f C : Addr} {fd : FuncData} {ps : List Str} {io : List Nat} {sp : Sp} {spec : SemF} {ks : List (Option Nat)} {o e : Expr} {es : List Expr} {q : SemE} {qs : SemD} {m x : Str} {p pos apos : Pos} {ta : TE} {t : TA} {pa : SemP} {root : Option Nat}
theorem q_fld (c : Cls X.K C) (hn : NoAttr X.K C x) (ha : QP X W M root e pa) (hb : attributeBase e x X.env (eval e X.env) = eval e X.env := by rfl) : QE X W M (.Attribute e x pos) (s1 pa (fldG C x)) :=
  ⟨PE_imp (pe_fld ha.run hb) fun σ H Qv ⟨n, ow, env, Q, E, s, hq, kk, xx⟩ => ⟨n, ow, env, _, E, s, hq, fun v t pt H' ow' env' y1 s' o r z => by
    have rx : Ro X.K H' ow' v t := r.ro s'
    unfold fldG at z
    split at z
    · obtain ⟨rfl, d, hl, z⟩ := z
      obtain ⟨l, rx⟩ := rx
      cases Tq.fz_.mp rx with
      | cell _ cc rr =>
        obtain ⟨v', h1, h2⟩ := zip_look cc.fit.1 rr hl
        exact ⟨_, _, _, _, v', rfl, (bs_some cc.at_).2, c, hn, h1, kk v' (.fz d) H' ow' env' y1 s' o (Tq.fz_.mpr h2) z⟩
    · obtain ⟨rfl, d, hl, z⟩ := z
      obtain ⟨l, S, rx⟩ := rx
      cases rx with
      | ow cc _ rr =>
        obtain ⟨v', h1, h2⟩ := zip_look cc.fit.1 rr hl
        exact ⟨_, _, _, _, v', rfl, cc.at_, c, hn, h1, kk v' (.fz d) H' ow' env' y1 s' o (Tq.fz_.mpr h2) z⟩
    · exact z.elim, xx⟩⟩
theorem pe_methG {pl : Sem Bool} (he : PE X o ta) (c : Cls X.K C) (hm : Meth X.K C m f) (F : FnG X.prog X.w X.K X.mg X.base k f fd ps sp) (hr : Room k X.A) (hG : X.A.guards = some []) (hb : Binds X.K fd ps []) (tk : L2.Takes X W) (ha : PA X (e :: es) t)
    (hst : starEach (e :: es) X.env = (false, eval e X.env) :: starEach es X.env := by rfl) (hpl : (backTo pos (starEach es X.env)).any (·.1) = false := by rfl)
    (ht : eval (.Call (.Attribute o m apos) (e :: es) [] pos) X.env = (do
      let ov ← eval o X.env
      standAt apos.atName
      let (f, first) ← holding [ov] (getMethod ov m pl)
      callWith pos f first (backTo pos (starEach (e :: es) X.env)) (backToKw pos (keywordEach [] X.env))) := by rfl) :
    PE X (.Call (.Attribute o m apos) (e :: es) [] pos) (fun σ H Q => ta σ H fun x H1 => ∃ a dx fs, x = .ref a ∧ H1 a = some (.ins C dx fs) ∧ fs.lookup m = none ∧ t σ H1 fun vs H2 => sp (x :: vs) H2 Q fun cls d H' => W cls d σ H') := by
  refine ⟨fun pins s σ H Q I h => ?_⟩
  refine PySem.W.methodCall_KW (pl := pl) (thn (he.run pins s σ H _ I h) fun u s1 ⟨x, H1, I1, rx, a, dx, fs, ex, ea, l, q⟩ => ?_) ht
  subst ex
  obtain rfl : u = Value.ref a := rx
  refine getmeth_ok I1 ea c hm l ?_
  refine PySem.W.callWith_K (first := [.ref a]) (h₀ := X.base) I.ok.mod.kin hm.kp (thn (ha.run pos pins s1 σ H1 _ I1 q) fun us s2 ⟨vs, H2, I2, r, q2⟩ => ⟨I2.kIn, ?_⟩) hst hpl
  exact runG (us := .ref a :: us) (vs := .ref a :: vs) F hr hG hb tk I2 (.cons rfl r) q2
theorem pe_methG0 {pl : Sem Bool} (he : PE X o ta) (c : Cls X.K C) (hm : Meth X.K C m f) (F : FnG X.prog X.w X.K X.mg X.base k f fd ps sp) (hr : Room k X.A) (hG : X.A.guards = some []) (hb : Binds X.K fd ps []) (tk : L2.Takes X W)
    (ht : eval (.Call (.Attribute o m apos) [] [] pos) X.env = (do
      let ov ← eval o X.env
      standAt apos.atName
      let (f, first) ← holding [ov] (getMethod ov m pl)
      callWith pos f first (backTo pos (starEach [] X.env)) (backToKw pos (keywordEach [] X.env))) := by rfl) :
    PE X (.Call (.Attribute o m apos) [] [] pos) (fun σ H Q => ta σ H fun x H1 => ∃ a dx fs, x = .ref a ∧ H1 a = some (.ins C dx fs) ∧ fs.lookup m = none ∧ sp [x] H1 Q fun cls d H' => W cls d σ H') := by
  refine ⟨fun pins s σ H Q I h => ?_⟩
  refine PySem.W.methodCall_KW (pl := pl) (thn (he.run pins s σ H _ I h) fun u s1 ⟨x, H1, I1, rx, a, dx, fs, ex, ea, l, q⟩ => ?_) ht
  subst ex
  obtain rfl : u = Value.ref a := rx
  refine getmeth_ok I1 ea c hm l ?_
  exact PySem.W.callWith_K0 (first := [.ref a]) I1.kIn hm.kp (runG (us := [.ref a]) (vs := [.ref a]) F hr hG hb tk I1 (.cons rfl .nil) q)
def CalleeM (P : Program) (w : World) (K : PySem.W.Frag) (mg : Str → Option Value) (base : Heap) (k : Nat) (C : Addr) (m : Str) (ps : List Str) (io : List Nat) (spec : SemF) : Prop := ∃ f fd, QFn P w K mg base k f fd ps io spec ∧ Meth K C m f ∧ Binds K fd ps []
def sMeth (C : Addr) (m : Str) (spec : SemF) (ks : List (Option Nat)) (cs : List Nat) (q : SemE) (qs : SemD) : SemE := fun env Q E => q env (fun t env1 => match t with
  | .fz (.nd (.ins C' fk) d0) => (C' = C ∧ fk.contains m = false) ∧ qs env1 (fun ds env2 => match asm (none :: ks) (.nd (.ins C' fk) d0 :: ds) env2 with
    | some args => spec args (fun t outs => Q t (putO cs outs env2)) (fun r outs => E r (putO cs outs env2))
    | none => False) E
  | _ => False) E
theorem q_meth {pl : Sem Bool} (F : CalleeM X.prog X.w X.K X.mg X.base k C m ps io spec) (c : Cls X.K C) (tk : L2.Takes X W) (hr : Room k X.A) (hG : X.A.guards = some [])
    (h1 : QE X W Ma o q) (h2 : QA X W Mb ks (e :: es) qs) (cs : List Nat) (hio : io.Nodup := by decide) (hK : okK (none :: ks) io cs = true := by decide) (hn : (none :: ks).length = ps.length := by rfl)
    (hst : starEach (e :: es) X.env = (false, eval e X.env) :: starEach es X.env := by rfl) (hpl : (backTo pos (starEach es X.env)).any (·.1) = false := by rfl)
    (ht : eval (.Call (.Attribute o m apos) (e :: es) [] pos) X.env = (do
      let ov ← eval o X.env
      standAt apos.atName
      let (f, first) ← holding [ov] (getMethod ov m pl)
      callWith pos f first (backTo pos (starEach (e :: es) X.env)) (backToKw pos (keywordEach [] X.env))) := by rfl) :
    QE X W ((Ma ++ Mb) ++ cs) (.Call (.Attribute o m apos) (e :: es) [] pos) (sMeth C m spec ks cs q qs) := by
  obtain ⟨f, fd, F, hm, hb⟩ := F
  refine ⟨PE_imp (pe_methG h1.run c hm F hr hG hb tk h2.run hst hpl ht) fun σ H Qv ⟨n, ow, env, Q, E, st, hq, kk, xx⟩ => ⟨n, ow, env, _, E, st, hq, fun v t H1 ow1 env1 y1 s1 o1 r1 z => ?_, fun r d H' ow' env' y s' o => xx r d H' ow' env' (y.mono (fun i h => subl i (subl i h)) (Nat.le_refl _)) s' (o.mono fun i h => subl i (subl i h))⟩⟩
  split at z
  · rename_i C' fk d0
    obtain ⟨⟨rfl, hno⟩, z⟩ := z
    have r1 := Tq.fz_.mp r1
    cases r1 with
    | cell hk cc rr =>
      refine ⟨_, _, _, rfl, (bs_some cc.at_).2, look_no hno, n + 1, ow1, env1, _, E, s1, z, fun vs ds H2 ow2 env2 y2 s2 o2 l1 l2 hv z2 => ?_, xx.step y1 o1 (fun i h => subl i (subl i h)) (fun i h => subl i (subr i h)) (Nat.le_refl _) (Nat.le_succ _)⟩
      split at z2
      · rename_i args ea
        have r2 := (Rp.cell hk cc rr : Rp X.K (Bs H1 ow1) _ (.nd (.ins C' fk) d0)).mono y2.bs
        have yy := y1.trans y2 subl subr (Nat.le_refl _) (Nat.le_succ _)
        have oo := o1.trans o2 subl subr
        refine call_run hio hK hn s2 (by rw [List.length_cons, List.length_cons, l1]) (fun j v' d' ev ed => ?_) (by rw [List.length_cons, List.length_cons, l2]) ea z2 (fun v t H3 ow3 env3 y3 s3 o3 r3 z3 => kk v t H3 ow3 env3 (yy.trans y3 subl subr (Nat.le_refl _) (Nat.le_refl _)) s3 (oo.trans o3 subl subr) r3 z3) (xx.step yy oo subl subr (Nat.le_refl _) (Nat.le_refl _))
        cases j with
        | zero =>
          simp at ev ed
          subst ev ed
          exact ⟨fun _ => r2, fun i hi => by simp at hi⟩
        | succ j => exact hv j v' d' (by simpa using ev) (by simpa using ed)
      · exact z2.elim
  · exact z.elim
def sMeth0 (C : Addr) (m : Str) (spec : SemF) (q : SemE) : SemE := fun env Q E => q env (fun t env1 => match t with
  | .fz (.nd (.ins C' fk) d0) => (C' = C ∧ fk.contains m = false) ∧ spec [.fz (.nd (.ins C' fk) d0)] (fun t outs => Q t env1) (fun r outs => E r env1)
  | _ => False) E
theorem q_meth0 {pl : Sem Bool} (F : CalleeM X.prog X.w X.K X.mg X.base k C m ps [] spec) (c : Cls X.K C) (tk : L2.Takes X W) (hr : Room k X.A) (hG : X.A.guards = some [])
    (h1 : QE X W Ma o q) (hn : 1 = ps.length := by rfl)
    (ht : eval (.Call (.Attribute o m apos) [] [] pos) X.env = (do
      let ov ← eval o X.env
      standAt apos.atName
      let (f, first) ← holding [ov] (getMethod ov m pl)
      callWith pos f first (backTo pos (starEach [] X.env)) (backToKw pos (keywordEach [] X.env))) := by rfl) :
    QE X W Ma (.Call (.Attribute o m apos) [] [] pos) (sMeth0 C m spec q) := by
  obtain ⟨f, fd, F, hm, hb⟩ := F
  refine ⟨PE_imp (pe_methG0 h1.run c hm F hr hG hb tk ht) fun σ H Qv ⟨n, ow, env, Q, E, st, hq, kk, xx⟩ => ⟨n, ow, env, _, E, st, hq, fun v t H1 ow1 env1 y1 s1 o1 r1 z => ?_, xx⟩⟩
  split at z
  · rename_i C' fk d0
    obtain ⟨⟨rfl, hno⟩, z⟩ := z
    have r1 := Tq.fz_.mp r1
    cases r1 with
    | cell hk cc rr =>
      refine ⟨_, _, _, rfl, (bs_some cc.at_).2, look_no hno, ?_⟩
      refine call_run (ks := [none]) (cs := []) (ds := [.nd (.ins C' fk) d0]) (by decide) (by decide) hn s1 rfl (fun j v' d' ev ed => ?_) rfl rfl z (fun v t H3 ow3 env3 y3 s3 o3 r3 z3 => kk v t H3 ow3 env3 (y1.trans y3 (fun _ h => h) nilsub (Nat.le_refl _) (Nat.le_refl _)) s3 (o1.trans o3 (fun _ h => h) nilsub) r3 z3) (xx.step y1 o1 (fun _ h => h) nilsub (Nat.le_refl _) (Nat.le_refl _))
      cases j with
      | zero =>
        simp at ev ed
        subst ev ed
        exact ⟨fun _ => .cell hk cc rr, fun i hi => by simp at hi⟩
      | succ j => simp at ev
  · exact z.elim
end
end QV

set_option Elab.async false
set_option linter.all false
set_option maxRecDepth 100000
set_option maxHeartbeats 2000000
namespace QV
open PySem PySem.Spec PyProof.Rows L2
def fK : List Str → Str → List Str
  | [], f => [f]
  | g :: r, f => if g = f then g :: r else g :: fK r f
def fV {α : Type} : List Str → List α → Str → α → List α
  | [], _, _, v => [v]
  | g :: r, x :: xs, f, v => if g = f then v :: xs else x :: fV r xs f v
  | _ :: _, [], _, _ => []
theorem fput_zip {f : Str} {v : V} : ∀ {ks : List Str} {vs : List V}, ks.length = vs.length → putF f v (ks.zip vs) = (fK ks f).zip (fV ks vs f v)
  | [], [], _ => rfl
  | g :: r, x :: xs, h => by
    have ih := fput_zip (f := f) (v := v) (ks := r) (vs := xs) (by simpa using h)
    rw [List.zip_cons_cons, putF, fK, fV]
    by_cases e : g = f
    · rw [if_pos e, if_pos e, if_pos e, List.zip_cons_cons]
    · rw [if_neg e, if_neg e, if_neg e, List.zip_cons_cons, ih]
theorem fput_len {α : Type} {f : Str} {v : α} : ∀ {ks : List Str} {vs : List α}, ks.length = vs.length → (fK ks f).length = (fV ks vs f v).length ∧ (fV ks vs f v).length ≤ vs.length + 1
  | [], [], _ => ⟨rfl, by simp [fV]⟩
  | g :: r, x :: xs, h => by
    have ih := fput_len (f := f) (v := v) (ks := r) (vs := xs) (by simpa using h)
    rw [fK, fV]
    by_cases e : g = f
    · rw [if_pos e, if_pos e]; exact ⟨by simpa using h, by simp⟩
    · rw [if_neg e, if_neg e]; exact ⟨by simp [ih.1], by simp; exact ih.2⟩
section
variable {K : PySem.W.Frag} {B H : Hp} {ow : Ow} {σ : L2.St} {env : Env} {i n : Nat}
theorem rps_fput {f : Str} {v : V} {d : D} (rv : Rp K B v d) : ∀ {ks : List Str} {vs : List V} {ds : List D}, Rps K B vs ds → ks.length = vs.length → Rps K B (fV ks vs f v) (fV ks ds f d)
  | [], _, _, _, _ => .cons rv .nil
  | g :: r, _ :: _, _ :: _, .cons r0 s, h => by
    rw [fV, fV]
    by_cases e : g = f
    · rw [if_pos e, if_pos e]; exact .cons rv s
    · rw [if_neg e, if_neg e]; exact .cons r0 (rps_fput rv s (by simpa using h))
theorem own_atI {C : Addr} {ks : List Str} {ds : List D} (s : StOk K H ow σ env) (e : env[i]? = some (some (.ow (.ins C ks) ds))) : ∃ a dx vs, σ[i]? = some (some (.ref a)) ∧ Cell H a dx (.ins C ks) vs ∧ Rps K (Bs H ow) vs ds ∧ ow a = .sl i ∧ ow dx = .sl i := by
  obtain ⟨v, e1, S, r⟩ := s.at_ i _ e
  cases r with
  | ow c f r => exact ⟨_, _, _, e1, c, r, f _ (.inl rfl), f _ (.inr rfl)⟩
theorem own_setI {a dx C : Addr} {ks' : List Str} {ds' : List D} {vs' : List V} (s : StOk K H ow σ env) (e1 : σ[i]? = some (some (.ref a))) (eo : ow a = .sl i) (ed : ow dx = .sl i) (hx : H dx = some (.own a)) (hne : dx ≠ a) (hz : vs'.length ≤ sizeLine) (hf : ks'.length = vs'.length) (r : Rps K (Bs H ow) vs' ds') :
    Stp [i] n H ow (upd H a (.ins C dx (ks'.zip vs'))) ow ∧ StOk K (upd H a (.ins C dx (ks'.zip vs'))) ow σ (env.set i (some (.ow (.ins C ks') ds'))) ∧ Out [i] env (env.set i (some (.ow (.ins C ks') ds'))) := by
  have y : ∀ {m : Nat}, Stp [i] m H ow (upd H a (.ins C dx (ks'.zip vs'))) ow := fun {m} b o e q => by
    have ne : b ≠ a := fun z => by
      rw [z, eo] at q
      exact absurd (show i ∈ [i] by simp) q
    exact ⟨by rw [upd_ne ne]; exact e, rfl⟩
  refine ⟨y, s.stp (y (m := 0)) Out.set1 fun j t hj e => ?_, Out.set1⟩
  have ej : j = i := by simpa using hj
  subst ej
  have hl : j < env.length := by
    rw [s.len]
    exact (List.getElem?_eq_some_iff.mp e1).1
  rw [List.getElem?_set_self hl] at e
  cases e
  exact ⟨_, e1, _, .ow (k := .ins C ks') (dx := dx) ⟨upd_same, hz, hf, by rw [upd_ne hne]; exact hx, hne⟩ (fun b fb => by
    rcases fb with rfl | rfl
    · exact eo
    · exact ed) (r.mono (y (m := 0)).bs)⟩
end
def sFSt (C : Addr) (i : Nat) (f : Str) (q : SemE) : SemS := fun D env => q env (fun t env1 => match t, env1[i]? with
  | .fz d, some (some (.ow (.ins C' ks) ds)) => C' = C ∧ ks.length < 1000 ∧ D.nx (env1.set i (some (.ow (.ins C (fK ks f)) (fV ks ds f d))))
  | _, _ => False) D.ex
section
variable {X : Cx} {W : WX} {M Ma Mb IO : List Nat} {k : Nat} {f C : Addr} {fd : FuncData} {ps : List Str} {sp : Sp} {spec : SemF} {ks : List (Option Nat)} {e ix : Expr} {es : List Expr} {q qi : SemE} {qs : SemD} {x m : Str} {px tpos pos p : Pos} {t : TA}
theorem s_fld (i : Nat) (c : Cls X.K C) (hn : NoAttr X.K C m) (he : QE X W Ma e q) (hN : X.N[i]? = some x := by rfl) (hv : Vis X.env.scope x := by first | exact Or.inl rfl | exact Or.inr (Or.inl rfl) | exact Or.inr (Or.inr rfl)) (hd : (x == ("__debug__" : Str)) = false := by decide)
    (hcd : (x == ("__classdict__" : Str)) = false := by decide) (hs : swapsWith e (some (.Attribute (.Name x px) m tpos)) pos.line X.env = pure false := by rfl) : QS X W IO (.Assign [.Attribute (.Name x px) m tpos] e pos) (sFSt C i m q) :=
  ⟨PS_imp (ps_fld (pe_var (i := i) hN hv hd hcd) he.run hs) fun D σ H ⟨ow, env, De, s, hq, k⟩ => ⟨0, ow, env, _, De.ex, s, hq, fun v t H1 ow1 env1 y1 s1 _ r1 z => by
    split at z
    · rename_i d C' ks ds e2
      obtain ⟨rfl, hl, z⟩ := z
      obtain ⟨a, dx, vs, e1, cc, rr, eo, ed⟩ := own_atI s1 e2
      have hlen := fput_len (f := m) (v := v) cc.fit.1
      refine ⟨.ref a, e1, a, _, dx, _, rfl, cc.at_, c, hn, ?_, ?_⟩
      · show (ks.zip vs).length < 1000
        rw [List.length_zip]; omega
      · rw [fput_zip cc.fit.1]
        obtain ⟨y3, s3, _⟩ := own_setI (n := 0) (C := C') (ks' := fK ks m) s1 e1 eo ed cc.fit.2.1 cc.fit.2.2 (by
          have h1 := cc.fit.1
          exact Nat.le_trans hlen.2 (Nat.le_trans (show vs.length + 1 ≤ 1000 by omega) (by decide))) hlen.1 (rps_fput (Tq.fz_.mp r1) rr cc.fit.1)
        exact k.nx _ _ _ _ (y1.fs.trans y3.fs) Ios.refl s3 z
    · exact z.elim, k.ex.xk⟩⟩
theorem runMakeG {pins : List (Addr × Obj)} {σ : L2.St} {H : Hp} {s : Shared} {Q : VK} {us : List Value} {vs : List V} (M : Mk X.K C f) (F : FnG X.prog X.w X.K X.mg X.base k f fd ps sp) (hr : Room (k + 1) X.A) (hG : X.A.guards = some []) (hb : Binds X.K fd ps []) (tk : L2.Takes X W)
    (I : Inv X pins σ H s) (r : Vals vs us) (h : ∀ x dx, H x = none → H dx = none → dx ≠ x → sp (.ref x :: vs) (upd (upd H dx (.own x)) x (.ins C dx [])) (fun v H2 => v = .non ∧ Q (.ref x) H2) fun cls d H' => W cls d σ H') :
    wpAny (model X.prog X.w) X.A (call (.ref C) us) (EP X pins σ Q) X.xe s := by
  have hq := h (s.heap.objs.size + 1) s.heap.objs.size (I.hok.fresh (Nat.le_succ _)) (I.hok.fresh (Nat.le_refl _)) (Nat.ne_of_lt (Nat.lt_succ_self _))
  have I2 := Inv.made (C := C) I
  have r2 : Vals (V.ref (s.heap.objs.size + 1) :: vs) (Value.ref (s.heap.objs.size + 1) :: us) := .cons rfl r
  have hl : ((Value.ref (s.heap.objs.size + 1) :: us) ++ []).length = ps.length := by rw [List.append_nil, ← r2.length]; exact F.len _ _ _ _ hq
  have hb2 := hb _ (Value.ref (s.heap.objs.size + 1) :: us) I2.kIn hl
  rw [List.append_nil] at hb2
  refine wpAny_call (make_map (f := f) I.kIn M.makes M.init (beq_iff_eq.mp M.fn) (codeAny_mono (F.run _ X.stack _ _ ⟨Value.ref (s.heap.objs.size + 1) :: us, []⟩ (Value.ref (s.heap.objs.size + 1) :: us) _ _ _ (hr.make C us []) hG (I2.env0.make C us []) hb2 r2 hq) fun r s' hq' => ?_))
  cases r with
  | error e => exact tk _ _ (XE.of_call I2 (fun _ _ _ q => q) hq')
  | ok fl =>
    cases fl with
    | ret u =>
      obtain ⟨v, H', I3, rv, ev, q3⟩ := I2.after hq'
      subst ev
      exact ⟨rv, ⟨V.ref (s.heap.objs.size + 1), H', I3, rfl, q3⟩⟩
    | next => exact hq'.elim
    | brk => exact hq'.elim
    | cont => exact hq'.elim
theorem pe_makeG (M : Mk X.K C f) (F : FnG X.prog X.w X.K X.mg X.base k f fd ps sp) (hr : Room (k + 1) X.A) (hG : X.A.guards = some []) (hg : Gl X x) (hm : X.mg x = some (.ref C)) (hb : Binds X.K fd ps []) (tk : L2.Takes X W)
    (ha : PA X (e :: es) t) (hdb : (x == ("__debug__" : Str)) = false := by decide) (he : starEach (e :: es) X.env = (false, eval e X.env) :: starEach es X.env := by rfl) (hpl : (backTo pos (starEach es X.env)).any (·.1) = false := by rfl) :
    PE X (.Call (.Name x p) (e :: es) [] pos) (fun σ H Q => t σ H fun vs H1 => ∀ y dx, H1 y = none → H1 dx = none → dx ≠ y → sp (.ref y :: vs) (upd (upd H1 dx (.own y)) y (.ins C dx [])) (fun v H2 => v = .non ∧ Q (.ref y) H2) fun cls d H' => W cls d σ H') := by
  refine ⟨fun pins s σ H Q I h => ?_⟩
  refine wpAny_Call_Name_kw (ld_glob I hg hm ?_ hdb)
  refine PySem.W.callWith_K (h₀ := X.base) I.ok.mod.kin M.kp (thn (ha.run pos pins s σ H _ I h) fun us s1 ⟨vs, H1, I1, r, q⟩ => ⟨I1.kIn, ?_⟩) he hpl
  exact runMakeG M F hr hG hb tk I1 r q
def sMake (C : Addr) (spec : SemF) (qs : SemD) : SemE := fun env Q E => qs env (fun ds env1 => spec (.ow (.ins C []) [] :: ds.map .fz) (fun t outs => t = .fz .non ∧ ∃ u, outs = [u] ∧ Q u env1) (fun r _ => E r env1)) E
def labN (H1 : Hp) (ow1 : Ow) (m : Nat) (owc : Ow) : Ow := fun a => if (H1 a).isSome = true then ow1 a else match owc a with
  | .base => .base
  | .fr => .fr
  | _ => .tm m
theorem make_run {K : PySem.W.Frag} {n0 : Nat} {σ : L2.St} {H1 : Hp} {Qv : VK} {mm : Nat} {ow1 : Ow} {env1 : Env} {Q : T → Env → Prop} {E : XQ} {vs : List V} {ds : List D} (hn : vs.length + 1 = n0) (s1 : StOk K H1 ow1 σ env1) (rs : Rps K (Bs H1 ow1) vs ds)
    (hs : spec (.ow (.ins C []) [] :: ds.map .fz) (fun t outs => t = .fz .non ∧ ∃ u, outs = [u] ∧ Q u env1) (fun r _ => E r env1))
    (kk : ∀ v t H' ow', Stp [] mm H1 ow1 H' ow' → StOk K H' ow' σ env1 → Tq K H' ow' (.tm mm) v t → Q t env1 → Qv v H') (xx : Xk K W [] σ H1 mm ow1 env1 E)
    {y dx : Addr} (hy : H1 y = none) (hdx : H1 dx = none) (hne : dx ≠ y) : spQ K n0 [0] spec (.ref y :: vs) (upd (upd H1 dx (.own y)) y (.ins C dx [])) (fun v H2 => v = .non ∧ Qv (.ref y) H2) (fun cls d H' => W cls d σ H') := by
  obtain ⟨H0, eH0⟩ : ∃ H0, H0 = upd (upd H1 dx (.own y)) y (.ins C dx []) := ⟨_, rfl⟩
  obtain ⟨owi, eowi⟩ : ∃ owi : Ow, owi = fun a => if a = y ∨ a = dx then .sl 0 else labIn [] [] (ow1 a) := ⟨_, rfl⟩
  rw [← eH0]
  have ly : owi y = .sl 0 := by rw [eowi]; exact if_pos (.inl rfl)
  have ld : owi dx = .sl 0 := by rw [eowi]; exact if_pos (.inr rfl)
  have lo : ∀ a, a ≠ y → a ≠ dx → owi a = labIn [] [] (ow1 a) := fun a h1 h2 => by rw [eowi]; exact if_neg (fun z => z.elim h1 h2)
  have Hy : H0 y = some (.ins C dx []) := by rw [eH0]; exact upd_same
  have Hd : H0 dx = some (.own y) := by rw [eH0, upd_ne hne]; exact upd_same
  have old : ∀ a o, H1 a = some o → a ≠ y ∧ a ≠ dx ∧ H0 a = some o := fun a o e => by
    have n1 : a ≠ y := fun z => by rw [z, hy] at e; cases e
    have n2 : a ≠ dx := fun z => by rw [z, hdx] at e; cases e
    exact ⟨n1, n2, by rw [eH0, upd_ne n1, upd_ne n2]; exact e⟩
  have lIn : ∀ l, labIn [] [] l = .base ∨ labIn [] [] l = .fr := fun l => by
    cases l with
    | base => exact .inl rfl
    | _ => exact .inr rfl
  have lB : ∀ {l}, labIn [] [] l = .base → l = .base := fun {l} h => by
    cases l with
    | base => rfl
    | _ => cases h
  have bsIn : Same (Bs H1 ow1) (Bs H0 owi) := fun a o e => by
    obtain ⟨e1, e2⟩ := bs_some e
    obtain ⟨n1, n2, e3⟩ := old a o e2
    rw [bs_of (by rw [lo a n1 n2, e1]; rfl)]
    exact e3
  have rs2 := rs.mono bsIn
  have fr : ∀ {H2 : Hp} {owc : Ow}, Fs H0 owi H2 owc → ∀ a o, H1 a = some o → H2 a = some o ∧ owc a = labIn [] [] (ow1 a) := fun {H2 owc} fs a o e => by
    obtain ⟨n1, n2, e3⟩ := old a o e
    obtain ⟨q1, q2⟩ := fs a o e3 (by rw [lo a n1 n2]; exact (lIn _).symm)
    exact ⟨q1, by rw [q2, lo a n1 n2]⟩
  have stp : ∀ {H2 : Hp} {owc : Ow}, Fs H0 owi H2 owc → Stp [] mm H1 ow1 H2 (labN H1 ow1 mm owc) := fun {H2 owc} fs a o e _ => ⟨(fr fs a o e).1, by unfold labN; rw [e]; rfl⟩
  have bsB : ∀ {H2 : Hp} {owc : Ow}, Fs H0 owi H2 owc → Same (Bs H2 owc) (Bs H2 (labN H1 ow1 mm owc)) := fun {H2 owc} fs a o e => by
    obtain ⟨e1, e2⟩ := bs_some e
    have : labN H1 ow1 mm owc a = .base := by
      unfold labN
      cases e3 : H1 a with
      | none => simp [e1]
      | some o1 =>
        have q := (fr fs a o1 e3).2
        rw [e1] at q
        simp only [Option.isSome_some, if_true]
        exact lB q.symm
    rw [bs_of this]
    exact e2
  refine ⟨by rw [List.length_cons]; exact hn, owi, .ow (.ins C []) [] :: ds.map .fz, _, _, by rw [List.length_cons, List.length_map, ← rs.len]; exact hn, fun i t et => ?_, hs, fun v t H2 owc outs fs r lo' ho z => ?_, fun r d H2 owc outs fs rz lo' ho z => ?_⟩
  · cases i with
    | zero =>
      simp at et
      subst et
      exact ⟨.ref y, rfl, _, .ow (dx := dx) ⟨Hy, Nat.zero_le _, rfl, Hd, hne⟩ (fun b fb => by
        rcases fb with rfl | rfl
        · exact ly
        · exact ld) .nil⟩
    | succ i =>
      rw [List.getElem?_cons_succ, List.getElem?_map] at et
      obtain ⟨d, ed, rfl⟩ := Option.map_eq_some_iff.mp et
      obtain ⟨v, ev, rv⟩ := rs2.get ed
      exact ⟨v, by rw [List.getElem?_cons_succ]; exact ev, Tq.fz_.mpr rv⟩
  · obtain ⟨rfl, u, rfl, z⟩ := z
    have ev : v = .non := by cases Tq.fz_.mp r; rfl
    refine ⟨ev, ?_⟩
    obtain ⟨v0, e0, S, r0⟩ := ho 0 0 u rfl rfl
    simp at e0
    subst e0
    refine kk (.ref y) u H2 _ (stp fs) (s1.stp0 (stp fs)) ⟨S, Tp.car (bsB fs) (fun a o _ e eo => ⟨e, ?_⟩) r0⟩ z
    unfold labN
    cases e3 : H1 a with
    | none => simp [eo]
    | some o1 =>
      have q := (fr fs a o1 e3).2
      rw [eo] at q
      rcases lIn (ow1 a) with w | w <;> rw [w] at q <;> cases q
  · refine xx r d H2 _ _ (stp fs) (s1.stp0 (stp fs)) Out.refl ?_ z
    cases d with
    | none => exact rz
    | some d =>
      obtain ⟨ws, e1, e2, e3⟩ := rz
      exact ⟨ws, bsB fs _ _ e1, e2, e3.mono (bsB fs)⟩
def CalleeK (P : Program) (w : World) (K : PySem.W.Frag) (mg : Str → Option Value) (base : Heap) (k : Nat) (x : Str) (C : Addr) (ps : List Str) (spec : SemF) : Prop := ∃ f fd, QFn P w K mg base k f fd ps [0] spec ∧ Mk K C f ∧ mg x = some (.ref C) ∧ Binds K fd ps []
theorem q_make (F : CalleeK X.prog X.w X.K X.mg X.base k x C ps spec) (tk : L2.Takes X W) (hr : Room (k + 1) X.A) (hG : X.A.guards = some []) (hg : Gl X x)
    (ha : QA X W M ks (e :: es) qs) (hk : (ks.all fun x => x.isNone) = true := by rfl) (hn : ks.length + 1 = ps.length := by rfl) (hdb : (x == ("__debug__" : Str)) = false := by decide) (he : starEach (e :: es) X.env = (false, eval e X.env) :: starEach es X.env := by rfl)
    (hpl : (backTo pos (starEach es X.env)).any (·.1) = false := by rfl) : QE X W M (.Call (.Name x p) (e :: es) [] pos) (sMake C spec qs) := by
  obtain ⟨f, fd, F, hM, hm, hb⟩ := F
  exact ⟨PE_imp (pe_makeG hM F hr hG hg hm hb tk ha.run hdb he hpl) fun σ H Qv ⟨n, ow, env, Q, E, st, hq, kk, xx⟩ => tA_data hk st hq xx fun vs ds H' ow' env' y s' o l1 r z => fun a dx h1 h2 h3 =>
    make_run (by omega) s' r z (fun v t H2 ow2 y2 s2 r2 z2 => kk v t H2 ow2 env' (y.trans y2 (fun _ h => h) nilsub (Nat.le_refl _) (Nat.le_refl _)) s2 o r2 z2) (xx.step y o (fun _ h => h) nilsub (Nat.le_refl _) (Nat.le_refl _)) h1 h2 h3⟩
end
def DefM (K : PySem.W.Frag) (C : Addr) (m qual : Str) (st : Stmt) (ps : List Str) : Prop := ∃ f fd, Fun K m qual st f fd ∧ Meth K C m f ∧ Binds K fd ps []
def DefK (K : PySem.W.Frag) (mg : Str → Option Value) (x : Str) (C : Addr) (qual : Str) (st : Stmt) (ps : List Str) : Prop := ∃ f fd, Fun K "__init__" qual st f fd ∧ Mk K C f ∧ mg x = some (.ref C) ∧ Binds K fd ps []
section
variable {P : Program} {w : World} {K : PySem.W.Frag} {mg : Str → Option Value} {base : Heap}
theorem calleeM_of {k : Nat} {C : Addr} {m qual : Str} {st : Stmt} {N ps : List Str} {io : List Nat} {spec : SemF} (Df : DefM K C m qual st ps) (S : FnScope N ps (defScope st)) (hio : (io.all fun i => decide (i < ps.length)) = true) (hpN : ps.length ≤ N.length)
    (hb : ∀ (f : Addr) (cdv : Value) (A : Around) (outer : List PySem.Env) (s : Shared) (H : Hp) (E : XK) (W : WX), Room k (A.deeper (envOfC qual (defScope st) s.heap.objs.size f cdv)) → A.guards = some [] → L2.Takes (cxOf (L2.CX P w) P w K mg base N qual (defScope st) f cdv A outer s H E) W →
      PassesOwn (model P w) (A.deeper (envOfC qual (defScope st) s.heap.objs.size f cdv)) (envOfC qual (defScope st) s.heap.objs.size f cdv) (cxOf (L2.CX P w) P w K mg base N qual (defScope st) f cdv A outer s H E).xe →
      ∃ q, QSs (cxOf (L2.CX P w) P w K mg base N qual (defScope st) f cdv A outer s H E) W io (defBody st) q ∧ ∀ args Q E, args.length = ps.length → spec args Q E → q (EndsF io Q E) (env0 N.length args)) : CalleeM P w K mg base (k + 1) C m ps io spec :=
  let ⟨f, fd, F, m, b⟩ := Df
  ⟨f, fd, qfn_of F S hio hpN (hb f), m, b⟩
theorem calleeK_of {k : Nat} {C : Addr} {x qual : Str} {st : Stmt} {N ps : List Str} {spec : SemF} (Df : DefK K mg x C qual st ps) (S : FnScope N ps (defScope st)) (hio : (([0] : List Nat).all fun i => decide (i < ps.length)) = true) (hpN : ps.length ≤ N.length)
    (hb : ∀ (f : Addr) (cdv : Value) (A : Around) (outer : List PySem.Env) (s : Shared) (H : Hp) (E : XK) (W : WX), Room k (A.deeper (envOfC qual (defScope st) s.heap.objs.size f cdv)) → A.guards = some [] → L2.Takes (cxOf (L2.CX P w) P w K mg base N qual (defScope st) f cdv A outer s H E) W →
      PassesOwn (model P w) (A.deeper (envOfC qual (defScope st) s.heap.objs.size f cdv)) (envOfC qual (defScope st) s.heap.objs.size f cdv) (cxOf (L2.CX P w) P w K mg base N qual (defScope st) f cdv A outer s H E).xe →
      ∃ q, QSs (cxOf (L2.CX P w) P w K mg base N qual (defScope st) f cdv A outer s H E) W [0] (defBody st) q ∧ ∀ args Q E, args.length = ps.length → spec args Q E → q (EndsF [0] Q E) (env0 N.length args)) : CalleeK P w K mg base (k + 1) x C ps spec :=
  let ⟨f, fd, F, m, g, b⟩ := Df
  ⟨f, fd, qfn_of F S hio hpN (hb f), m, g, b⟩
end
end QV

set_option Elab.async false
set_option linter.all false
set_option maxRecDepth 100000
set_option maxHeartbeats 2000000
namespace QV
open PySem PySem.Spec PyProof.Rows L2
def sPar (i j : Nat) (qs : SemD) : SemS := fun D env => qs env (fun ds env1 => match ds with
  | [d1, d2] => D.nx ((env1.set i (some (.fz d1))).set j (some (.fz d2)))
  | _ => False) D.ex
section
variable {X : Cx} {W : WX} {M IO : List Nat} {a b : Expr} {qs : SemD} {x y : Str} {px py pt pos : Pos} {ks : List (Option Nat)}
theorem s_par (i j : Nat) {kt k2 pt2} (ha : QA X W M ks [a, b] qs) (hc : X.calm = true) (hN : X.N.Nodup) (hi : X.N[i]? = some x := by rfl) (hj : X.N[j]? = some y := by rfl) (hij : i ≠ j := by decide)
    (hx : X.env.scope.names.lookup x = some .local := by rfl) (hy : X.env.scope.names.lookup y = some .local := by rfl) (hio : i ∉ IO := by decide) (hjo : j ∉ IO := by decide) (hk : (ks.all fun x => x.isNone) = true := by rfl)
    (hw : swappedStores [.Tuple [.Name x px, .Name y py] kt pt] (.Tuple [a, b] k2 pt2) X.env = pure (some [x, y]) := by rfl)
    (hs : swapsWithSole [.Tuple [.Name x px, .Name y py] kt pt] (.Tuple [a, b] k2 pt2) pos.line X.env = pure false := by rfl) :
    QS X W IO (.Assign [.Tuple [.Name x px, .Name y py] kt pt] (.Tuple [a, b] k2 pt2) pos) (sPar i j qs) :=
  ⟨PS_imp (ps_par (i := i) (j := j) hc hN hi hj hij hx hy ha.run hw hs) fun D σ H ⟨ow, env, De, s, hq, k⟩ => tA_data (m := 0) hk s hq k.ex.xk fun vs ds H' ow' env' y1 s' _ l1 r z => by
    match ds, r, z with
    | [d1, d2], .cons (v := v) r1 (.cons (v := w) r2 .nil), z =>
      refine ⟨v, w, rfl, ?_⟩
      obtain ⟨y2, s2⟩ := into_slot (i := i) s' (Tq.fz_.mpr r1 : Tq X.K H' ow' (.tm 0) v (.fz d1))
      obtain ⟨y3, s3⟩ := into_slot (i := j) s2 (Tq.fz_.mpr (r2.mono y2.bs) : Tq X.K H' _ (.tm 0) w (.fz d2))
      exact k.nx _ _ _ _ ((y1.fs.trans y2.fs).trans y3.fs) ((ios_set hio).trans (ios_set hjo)) s3 z⟩
end
end QV

set_option Elab.async false
set_option linter.all false
set_option maxRecDepth 100000
set_option maxHeartbeats 2000000
namespace QV
open PySem PySem.Spec PyProof.Rows L2
mutual
def D.px : D → PyData
  | .non => .none
  | .bl b => .bool b
  | .int i => .int i
  | .str x => .str x
  | .nd .tup ds => .tuple (Dpxs ds)
  | .nd .lst ds => .list (Dpxs ds)
  | .nd (.dK []) [] => .dict []
  | _ => .none
def Dpxs : List D → List PyData
  | [] => []
  | d :: ds => D.px d :: Dpxs ds
end
mutual
def D.pt : Nat → D → Bool
  | _, .non => true
  | _, .bl _ => true
  | _, .int _ => true
  | _, .str x => true
  | _ + 1, .nd (.dK []) [] => true
  | n + 1, .nd .tup ds => Dpts n ds
  | n + 1, .nd .lst ds => Dpts n ds
  | _, _ => false
def Dpts : Nat → List D → Bool
  | _, [] => true
  | n, d :: ds => D.pt n d && Dpts n ds
end
mutual
theorem px_depth : ∀ {n : Nat} (d : D), d.pt n = true → d.px.depth ≤ n
  | n, .non, _ => by simp [D.px, PyData.depth]
  | n, .bl b, _ => by simp [D.px, PyData.depth]
  | n, .int i, _ => by simp [D.px, PyData.depth]
  | n, .str x, _ => by simp [D.px, PyData.depth]
  | 0, .nd .tup ds, h => by simp [D.pt] at h
  | n + 1, .nd .tup ds, h => by
    have := pxs_depth (n := n) ds (by simpa [D.pt] using h)
    simp only [D.px, PyData.depth]
    omega
  | 0, .nd (.dK []) [], h => by simp [D.pt] at h
  | n + 1, .nd (.dK []) [], _ => by simp [D.px, PyData.depth, PyData.depthKv]
  | n, .nd (.dK (_ :: _)) _, h => by cases n <;> simp [D.pt] at h
  | n, .nd (.dK []) (_ :: _), h => by cases n <;> simp [D.pt] at h
  | 0, .nd .lst ds, h => by simp [D.pt] at h
  | n + 1, .nd .lst ds, h => by
    have := pxs_depth (n := n) ds (by simpa [D.pt] using h)
    simp only [D.px, PyData.depth]
    omega
  | n, .nd (.dT _) _, h => by cases n <;> simp [D.pt] at h
  | n, .nd (.ins _ _) _, h => by cases n <;> simp [D.pt] at h
  | n, .scr _, h => by cases n <;> simp [D.pt] at h
  | n, .exc _ _ _ _ _, h => by cases n <;> simp [D.pt] at h
theorem pxs_depth : ∀ {n : Nat} (ds : List D), Dpts n ds = true → PyData.depthAll (Dpxs ds) ≤ n
  | n, [], _ => by simp [Dpxs, PyData.depthAll]
  | n, d :: ds, h => by
    have h' : D.pt n d = true ∧ Dpts n ds = true := by simpa [Dpts] using h
    have := px_depth d h'.1
    have := pxs_depth ds h'.2
    simp only [Dpxs, PyData.depthAll]
    omega
end
mutual
theorem shrx_ok : ∀ d : D, shrt d = true → d.px.leavesShort 41 = true ∧ d.px.showable = true ∧ d.px.weight ≤ szD d
  | .non, _ => ⟨rfl, rfl, by simp [D.px, PyData.weight]⟩
  | .bl _, _ => ⟨rfl, rfl, by simp [D.px, PyData.weight]⟩
  | .int i, h => by
    have h' : i.natAbs < 10000000000000000000000000000000000000000 := by simpa [shrt] using h
    refine ⟨?_, ?_, ?_⟩
    · simp only [D.px, PyData.leavesShort, decide_eq_true_eq]
      have e := int_text_length_le10 (k := 40) (by decide) (show i.natAbs < 10 ^ 40 by omega)
      have e2 : (PyData.int i).shown.length = (toString i).length := by
        rw [PyData.shown_int]
        exact PySem.ofString_length _
      rw [e2]
      exact e
    · simp only [D.px, PyData.showable, decide_eq_true_eq]
      have := log2_40 h'
      omega
    · simp only [D.px, PyData.weight, szD]
      have := log2_40 h'
      split <;> omega
  | .str x, h => by
    refine ⟨by simpa [D.px, PyData.leavesShort, shrt] using h, rfl, by simp [D.px, PyData.weight, szD]⟩
  | .scr _, _ => ⟨rfl, rfl, by simp [D.px, PyData.weight]⟩
  | .exc _ _ _ _ _, _ => ⟨rfl, rfl, by simp [D.px, PyData.weight]⟩
  | .nd .lst ds, h => by
    obtain ⟨a, b, c⟩ := shrxs_ok ds (by simpa [shrt] using h)
    exact ⟨by simpa [D.px, PyData.leavesShort] using a, by simpa [D.px, PyData.showable] using b, by simpa [D.px, PyData.weight, szD] using c⟩
  | .nd .tup ds, h => by
    obtain ⟨a, b, c⟩ := shrxs_ok ds (by simpa [shrt] using h)
    exact ⟨by simpa [D.px, PyData.leavesShort] using a, by simpa [D.px, PyData.showable] using b, by simpa [D.px, PyData.weight, szD] using c⟩
  | .nd (.dK []) [], _ => ⟨rfl, rfl, by simp [D.px, PyData.weight, PyData.weightKv]⟩
  | .nd (.dK []) (_ :: _), _ => ⟨rfl, rfl, by simp [D.px, PyData.weight]⟩
  | .nd (.dK (_ :: _)) ds, _ => ⟨rfl, rfl, by simp [D.px, PyData.weight]⟩
  | .nd (.dT _) ds, _ => ⟨rfl, rfl, by simp [D.px, PyData.weight]⟩
  | .nd (.ins _ _) ds, _ => ⟨rfl, rfl, by simp [D.px, PyData.weight]⟩
theorem shrxs_ok : ∀ ds : List D, shrts ds = true → PyData.leavesShortAll 41 (Dpxs ds) = true ∧ PyData.showableAll (Dpxs ds) = true ∧ PyData.weightAll (Dpxs ds) ≤ szDs ds
  | [], _ => ⟨rfl, rfl, by simp [Dpxs, PyData.weightAll]⟩
  | d :: ds, h => by
    have h' : shrt d = true ∧ shrts ds = true := by simpa [shrts] using h
    obtain ⟨a, b, c⟩ := shrx_ok d h'.1
    obtain ⟨a', b', c'⟩ := shrxs_ok ds h'.2
    exact ⟨by simp [Dpxs, PyData.leavesShortAll, a, a'], by simp [Dpxs, PyData.showableAll, b, b'], by simp only [Dpxs, PyData.weightAll, szDs]; omega⟩
end
def shwX (d : D) : Prop := d.px.showable = true ∧ d.px.shown.length ≤ sizeLine
theorem shx_of {d : D} (h : shrt d = true) (hz : szD d ≤ 262144) : shwX d := by
  obtain ⟨a, b, c⟩ := shrx_ok d h
  refine ⟨b, Nat.le_trans (PyData.shown_le 41 (by decide) _ a) ?_⟩
  have h1 : (41 + 2) * d.px.weight + 41 ≤ 43 * 262144 + 41 := by omega
  exact Nat.le_trans h1 (by rw [sizeLine_eq]; decide)
theorem pts_all {n : Nat} : ∀ {ds : List D}, (∀ d, d ∈ ds → d.pt n = true) → Dpts n ds = true
  | [], _ => by simp [Dpts]
  | d :: ds, h => by simp only [Dpts, Bool.and_eq_true]; exact ⟨h d (by simp), pts_all fun e he => h e (by simp [he])⟩
theorem pt_lst {n : Nat} {ds : List D} (h : ∀ d, d ∈ ds → d.pt n = true) : (D.nd .lst ds).pt (n + 1) = true := by rw [D.pt]; exact pts_all h
theorem pt_tup {n : Nat} {ds : List D} (h : ∀ d, d ∈ ds → d.pt n = true) : (D.nd .tup ds).pt (n + 1) = true := by rw [D.pt]; exact pts_all h
def Sys (h : Heap) : Prop := ∃ o, h.get? sysModules = some o
section
variable {X : Cx} {pins : List (Addr × Obj)} {σ : L2.St} {H : Hp} {s : Shared}
theorem H_sys (hS : Sys X.base) (I : Inv X pins σ H s) : H sysModules = none := let ⟨o, e⟩ := hS; (I.bs _ o e).2
mutual
theorem px_reads (hS : Sys X.base) (I : Inv X pins σ H s) : ∀ {n : Nat} (d : D) (v : V) (u : Value), Rp X.K H v d → d.pt n = true → RelV v u → ∃ as, Reads s.heap u d.px as ∧ sysModules ∉ as
  | n, .non, _, _, h, _, r => by cases h; cases r; exact ⟨_, Reads.none, by simp⟩
  | n, .bl b, _, _, h, _, r => by cases h; cases r; exact ⟨_, Reads.bool b, by simp⟩
  | n, .int i, _, _, h, _, r => by cases h; obtain ⟨t, rfl⟩ := r; exact ⟨_, Reads.int i t, by simp⟩
  | n, .str x, _, _, h, _, r => by cases h; obtain ⟨t, rfl⟩ := r; exact ⟨_, Reads.str x t, by simp⟩
  | 0, .nd .tup ds, _, _, _, h, _ => by simp [D.pt] at h
  | n + 1, .nd .tup ds, _, _, h, k, r => by
    cases h with
    | tup c z rr =>
      cases r
      obtain ⟨its, rv, ⟨o, ho, hc, m, hd⟩, _⟩ := I.tuple (sqT_of c)
      obtain ⟨as, hr, hn⟩ := pxs_reads hS I (n := n) ds _ its rr (by simpa [D.pt] using k) rv
      exact ⟨_, Reads.tuple ho hc hd hr, hn⟩
    | cell hn _ _ => exact absurd rfl hn
  | n, .nd (.dK []) [], _, _, h, k, r => by
    cases h with
    | cell _ c rr =>
      cases rr
      cases r
      obtain ⟨_, hs, vs, kv, o, es, ep, h1, h2, h3, _, h5, _⟩ := dk_of I.hok c.at_
      have e0 : vs = [] := by
        have := kv.length
        simp at this
        exact List.eq_nil_of_length_eq_zero this.symm
      subst e0
      have e1 : es.toList = [] := by
        generalize es.toList = l at h5
        cases h5
        rfl
      refine ⟨_, Reads.dict (kvs := []) h1 h2.1 h3 (by rw [e1]; exact .nil) (by rw [e1]; exact .nil), ?_⟩
      simp
      intro z
      rw [← z] at hs
      simp at hs
  | n, .nd (.dK (_ :: _)) _, _, _, _, h, _ => by cases n <;> simp [D.pt] at h
  | n, .nd (.dK []) (_ :: _), _, _, _, h, _ => by cases n <;> simp [D.pt] at h
  | 0, .nd .lst ds, _, _, _, h, _ => by simp [D.pt] at h
  | n + 1, .nd .lst ds, _, _, h, k, r => by
    cases h with
    | cell _ c rr =>
      cases r
      obtain ⟨its, rv, ⟨o, m, ho, hc, _, hd⟩, _⟩ := I.list (.inl (.inl c.at_))
      obtain ⟨as, hr, hn⟩ := pxs_reads hS I (n := n) ds _ its rr (by simpa [D.pt] using k) rv
      refine ⟨_, Reads.list ho hc hd hr, ?_⟩
      have hs := c.at_
      simp only [List.mem_cons, not_or]
      refine ⟨fun z => ?_, hn⟩
      rw [← z, H_sys hS I] at hs
      cases hs
  | n, .nd (.dT _) _, _, _, _, h, _ => by cases n <;> simp [D.pt] at h
  | n, .nd (.ins _ _) _, _, _, _, h, _ => by cases n <;> simp [D.pt] at h
  | n, .scr _, _, _, _, h, _ => by cases n <;> simp [D.pt] at h
  | n, .exc _ _ _ _ _, _, _, _, h, _ => by cases n <;> simp [D.pt] at h
theorem pxs_reads (hS : Sys X.base) (I : Inv X pins σ H s) : ∀ {n : Nat} (ds : List D) (vs : List V) (us : List Value), Rps X.K H vs ds → Dpts n ds = true → Vals vs us → ∃ as, ReadsAll s.heap us (Dpxs ds) as ∧ sysModules ∉ as
  | n, [], _, _, h, _, r => by cases h; cases r; exact ⟨_, ReadsAll.nil, by simp⟩
  | n, d :: ds, _, _, h, k, r => by
    cases h with
    | cons h1 h2 =>
      cases r with
      | cons r1 r2 =>
        have k' : D.pt n d = true ∧ Dpts n ds = true := by simpa [Dpts] using k
        obtain ⟨as, q1, n1⟩ := px_reads hS I d _ _ h1 k'.1 r1
        obtain ⟨bs, q2, n2⟩ := pxs_reads hS I ds _ _ h2 k'.2 r2
        exact ⟨_, ReadsAll.cons q1 q2, by simp [n1, n2]⟩
end
end
def rReprX (K : PySem.W.Frag) : List V → Hp → VK → Prop := fun xs H Q => ∃ x d, xs = [x] ∧ Rp K H x d ∧ d.pt 8 = true ∧ d.px.showable = true ∧ d.px.shown.length ≤ sizeLine ∧ Q (.str d.px.shown) H
theorem c_reprX {X : Cx} (hS : Sys X.base) (hG : X.A.guards = some []) (hu : X.A.units + 66 < cLine) : CallR X (.builtin "repr") (rReprX X.K) := by
  intro pins s σ H xs us Q I r ⟨x, d, ex, hd, hp, hw, hz, q⟩
  subst ex
  obtain ⟨u, rfl, ru⟩ := vals1 r
  obtain ⟨as, rd, hn⟩ := px_reads hS I d x u hd hp ru
  have hdep := px_depth d hp
  cases hd with
  | non => cases ru; rw [D.px, PyData.shown_none] at q; exact PySem.P.repr_of_none ⟨.str _, H, I.tok _, ⟨_, rfl⟩, q⟩
  | bl b => cases ru; rw [D.px, PyData.shown_bool] at q; exact PySem.P.repr_of_bool ⟨.str _, H, I.tok _, ⟨_, by cases b <;> rfl⟩, q⟩
  | int i => obtain ⟨t, rfl⟩ := ru; rw [D.px, PyData.shown_int] at q; exact PySem.P.repr_of_int (by simpa [D.px, PyData.showable] using hw) ⟨.str _, H, I.tok _, ⟨_, rfl⟩, q⟩
  | str z => obtain ⟨t, rfl⟩ := ru; rw [D.px, PyData.shown_str] at q hz; exact PySem.P.repr_of_str ⟨.str _, H, I.tok _, ⟨_, rfl⟩, q⟩ hz
  | tup h1 h2 h3 =>
    cases ru
    exact repr_of_reads' rd hw (fun _ => hn) hG (by omega) (fun _ _ e => e) (fun h' u tk hk => ⟨.str _, H, I.kept hk, ⟨_, rfl⟩, q⟩) hz
  | cell h1 h2 h3 =>
    cases ru
    exact repr_of_reads' rd hw (fun _ => hn) hG (by omega) (fun _ _ e => e) (fun h' u tk hk => ⟨.str _, H, I.kept hk, ⟨_, rfl⟩, q⟩) hz
  | scr _ => simp [D.pt] at hp
  | exc0 _ _ => simp [D.pt] at hp
  | exc1 _ _ _ => simp [D.pt] at hp
def reprX (t : T) (Q : T → Prop) : Prop := t.d.pt 8 = true ∧ shwX t.d ∧ Q (.fz (.str t.d.px.shown))
theorem g_reprX {K : PySem.W.Frag} : Op1 K (fun x H Q => rReprX K [x] H Q) reprX := by
  intro H ow n x t Q Qv rx ⟨h1, h2, q⟩ k
  exact ⟨x, _, rfl, rx.rd, h1, h2.1, h2.2, k _ _ H ow Stp.refl (Tq.fz_.mpr (.str _)) q⟩
def sD0 : SemE := fun env Q _ => Q (.ow (.dK []) []) env
theorem q_dict0 {X : Cx} {W : WX} {pos : Pos} : QE X W [] (.Dict [] [] pos) sD0 :=
  ⟨PE_imp pe_dnewK fun σ H Qv ⟨n, ow, env, Q, E, s, hq, k, x⟩ p hp => k _ _ _ (Ow.put ow p (.tm n)) env (Stp.new hp) (s.stp0 (n := 0) (Stp.new hp)) Out.refl
    ⟨_, .ow (k := .dK []) (dx := p) (vs := []) ⟨upd_same, by decide, show ([] : List Key).length = ([] : List V).length from rfl⟩ (fun b fb => by have e : b = p := fb; rw [e]; exact put_same) .nil⟩ hq⟩
section
variable {P : Program} {w : World} {K : PySem.W.Frag} {mg mb : Str → Option Value} {k : Nat} {fa a : Addr} {p1 : Str} {sp : Sp} {st : Shared}
theorem end_coreS {us : List Value} (sysN : ∃ mm, st.heap.Ns sysModules mm) (inK : K.In st.heap) (gN : st.heap.Ns mainGlobals mg) (bN : st.heap.Ns builtinsNs mb) (boot : ∀ y : Str, y ≠ "__name__" → mb y = bootBuiltins y) (lim : st.heap.NoLimit) (gens : st.gens = #[])
    (cell : st.heap.get? a = some { cls := .type "list", data := .seq us.toArray }) (room : Room k callerA) (F : ∀ base : Heap, Sys base → ∃ fd, FnG P w K mg base k fa fd [p1] sp ∧ Binds K fd [p1] [])
    (H : Hp) (only : Only H) (say : sp [.ref a] H (fun v _ => v = .bl true) fun _ _ _ => False) (ok0 : HOk P w H st.heap) (just : ∀ b, H b ≠ none → b = a) (out : H a ≠ none → K.lookup a = none) :
    codeAny (model P w) callerA (.call (.ref fa) ⟨[.ref a], []⟩) (fun r s' => r = .ok (.ret (.bool true)) ∧ OldK st.heap s'.heap ∧ s'.os = st.os ∧ AllBare s'.gens) st := by
  have free : ∀ {b : Addr} {o : Obj} {es : Array DictEntry} {n : Nat}, st.heap.get? b = some o → o.data = .dict es n → H b = none := by
    intro b o es n e1 e2
    rcases Classical.em (H b = none) with z | z
    · exact z
    · have eb := just b z
      subst eb
      have := cell.symm.trans e1
      cases this
      exact Data.noConfusion e2
  have keepNs : ∀ {b : Addr} {m : Str → Option Value}, st.heap.Ns b m → (hidT st.heap H).Ns b m := by
    rintro b m ⟨o, es, n, g1, g2, rest⟩
    exact ⟨o, es, n, hidT_get g1 (free g1 g2), g2, rest⟩
  have inB : K.In (hidT st.heap H) := by
    intro b o e
    refine hidT_get (inK b o e) ?_
    rcases Classical.em (H b = none) with z | z
    · exact z
    · have eb := just b z
      subst eb
      have := (out z).symm.trans e
      cases this
  obtain ⟨mc, lim1, lim2⟩ := lim
  have md : Mod K mg (hidT st.heap H) := ⟨inB, keepNs gN, ⟨mb, keepNs bN, boot⟩, ⟨mc, keepNs lim1, lim2⟩⟩
  have none0 : ∀ {b : Addr}, b ∉ ([] : List Addr) := fun z => nomatch z
  have env0 : Env0 P w K mg (hidT st.heap H) callerA [] st H :=
    ⟨rfl, md, fun _ _ z => of_hidT z, Nat.le_of_eq (hidT_size _ _), trivial, fun _ z => absurd z none0, ok0, .of_eq gens⟩
  obtain ⟨fd, fn, bnd⟩ := F (hidT st.heap H) (let ⟨_, hm⟩ := sysN; let ⟨o, _, _, e, _⟩ := keepNs hm; ⟨o, e⟩)
  have run := fn.run callerA [] st H ⟨[.ref a], []⟩ [.ref a] [.ref a] _ _ room rfl env0 (bnd st [.ref a] inK rfl) (.cons rfl .nil) say
  refine codeAny_mono run fun r s' told => ?_
  rcases r with ex | fl
  · obtain ⟨_, _, _, _, _, _, _, _, _, _, _, _, z⟩ := told
    exact z.elim
  · cases fl with
    | ret u =>
      obtain ⟨v, H2, os, bare, un, ok2, ru, ev⟩ := told
      cases (show v = .bl true from ev)
      cases (show u = Value.bool true from ru)
      refine ⟨rfl, OldK.of_keep ?_, os, bare⟩
      intro b o e
      rcases only b with z | ⟨oo, ys, z⟩
      · exact un.keep b o e z none0 (by simp)
      · have g1 := (ok0 b _ z).1
        have g2 := (ok2 b _ (un.frzs b oo _ z)).1
        rw [e] at g1
        cases g1
        exact g2
    | next => exact told.elim
    | brk => exact told.elim
    | cont => exact told.elim
theorem end_callS {us : List Value} {ns : List Int} (sysN : ∃ mm, st.heap.Ns sysModules mm) (inK : K.In st.heap) (gN : st.heap.Ns mainGlobals mg) (bN : st.heap.Ns builtinsNs mb) (boot : ∀ y : Str, y ≠ "__name__" → mb y = bootBuiltins y) (lim : st.heap.NoLimit) (gens : st.gens = #[])
    (cell : st.heap.get? a = some { cls := .type "list", data := .seq us.toArray }) (nums : IntsAre us ns) (size : ns.length ≤ sizeLine) (room : Room k callerA) (F : ∀ base : Heap, Sys base → ∃ fd, FnG P w K mg base k fa fd [p1] sp ∧ Binds K fd [p1] [])
    (say : ∀ H : Hp, SqL K H a (ns.map V.int) → sp [.ref a] H (fun v _ => v = .bl true) fun _ _ _ => False) :
    codeAny (model P w) callerA (.call (.ref fa) ⟨[.ref a], []⟩) (fun r s' => r = .ok (.ret (.bool true)) ∧ OldK st.heap s'.heap ∧ s'.os = st.os ∧ AllBare s'.gens) st := by
  have vals := vals_ints nums
  have same := nums.length
  have go := fun H => end_coreS sysN (p1 := p1) (sp := sp) inK gN bN boot lim gens cell room F H
  rcases lk : K.lookup a with _ | o
  · let H0 : Hp := fun b => if b = a then some (.frz { cls := .type "list", data := .seq us.toArray } (.lst (ns.map V.int))) else none
    have at0 : H0 a = some (.frz { cls := .type "list", data := .seq us.toArray } (.lst (ns.map V.int))) := if_pos rfl
    have off : ∀ {b : Addr}, b ≠ a → H0 b = none := fun z => if_neg z
    refine go H0 (fun b => ?_) (say H0 (.inl (.inr ⟨_, at0⟩))) (fun b u z => ?_) (fun b z => ?_) fun _ => lk
    · rcases Classical.em (b = a) with z | z
      · subst z; exact .inr ⟨_, _, at0⟩
      · exact .inl (off z)
    · rcases Classical.em (b = a) with eb | eb
      · subst eb
        rw [at0] at z
        cases z
        exact ⟨cell, by rw [List.length_map]; exact size, us, _, vals, cell⟩
      · rw [off eb] at z
        cases z
    · exact Classical.byContradiction fun eb => z (off eb)
  · have e := inK a o lk
    rw [cell] at e
    cases e
    exact go (fun _ => none) (fun _ => .inl rfl) (say _ (.inr ⟨_, us.toArray, _, lk, rfl, rfl, rfl, by rw [List.size_toArray, same]; exact size, by simpa using vals⟩)) (fun _ u z => nomatch (show (none : Option HO) = some u from z)) (fun _ z => (z rfl).elim) fun z => (z rfl).elim
end
theorem walk_ofS {l : PySem.W.OpenLaw} {n k : Nat} {q : Program} {loose : List Str} {XP : (Str → Option Value) → Heap → Prop} {YP : World → Heap → Prop} {d : DefRec} {K : Params → PySem.W.Frag} {x : Str}
    (most : l.most = some n) (small : n ≤ sizeLine) (plain : d.params.defaults = []) (room : Room k callerA) (noimp : importsNone q = true) (inY : ∀ (w : World) (h : Heap), YP w h → (K w.params).In h)
    (F : ∀ (w : World) (mg : Str → Option Value) (h : Heap), (K w.params).In h → h.Ns mainGlobals mg → ∀ base : Heap, Sys base → Callee l.prog w (K w.params) mg base k d.name [x] [] (lawS n)) :
    PySem.W.WalkO q loose XP YP l.row.toRowW d [] (fun f vs => PySem.call f vs) := by
  refine Att.attach_call most plain fun w s0 st mg mb fa o pm cd doc a us ns G Y _ _ _ main cell nums many gens => ?_
  have inK := inY w _ Y
  refine end_callS (G.T.seer noimp |>.mods |> fun ⟨mm, a, _⟩ => ⟨mm, a⟩) inK G.T.g G.T.b G.T.builtins G.T.nolimit gens cell nums (Nat.le_trans many small) room (p1 := x) (sp := spQ (K w.params) 1 [] (lawS n)) (fun base SB => ?_) fun H h => say_law many h
  obtain ⟨f, fd, fn, e, _, bnd⟩ := F w mg _ inK G.T.g base SB
  have ef := main.symm.trans e
  cases ef
  exact ⟨fd, fn, bnd⟩
end QV

set_option Elab.async false
set_option linter.all false
set_option maxRecDepth 100000
set_option maxHeartbeats 2000000
namespace QV
open PySem PySem.Spec PyProof.Rows L2
section
variable {X : Cx} {W : WX} {M : List Nat} {a : Expr} {pa : SemP} {ra : Option Nat} {x : Str} {p pos : Pos}
theorem q_globS {s : Str} (hg : Gl X x) (hm : ∃ t, X.mg x = some (.str s t)) (hd : (x == ("__debug__" : Str)) = false := by decide) : QE X W [] (.Name x pos) (sC (.str s)) :=
  let ⟨t, h⟩ := hm
  q_const (pe_glob (v := .str s) hg h ⟨t, rfl⟩ hd) fun _ => .str s
def GlobT (K : PySem.W.Frag) (mg : Str → Option Value) (x : Str) (xs : List Str) : Prop := ∃ g : Addr, mg x = some (.ref g) ∧ ∀ H : Hp, SqT K H g (xs.map V.str)
theorem globT_of {K : PySem.W.Frag} {h : Heap} {mg : Str → Option Value} {x s1 s2 s3 : Str} {t1 t2 t3 : Tok} {a : Addr} {d : Option Addr} {n : Nat} {sl : Array (Option Value)} (X : K.In h) (G : h.Ns mainGlobals mg) (y : PySem.W.nsIn K mainGlobals x = some (some (.ref a)))
    (k : K.lookup a = some ⟨.type "tuple", d, .seq #[.str s1 t1, .str s2 t2, .str s3 t3] n, sl⟩) : GlobT K mg x [s1, s2, s3] :=
  ⟨a, PySem.W.mg_of X G y, fun H => .inr ⟨_, _, _, k, rfl, rfl, (by rw [sizeLine_eq]; show (3 : Nat) ≤ 16777216; decide), .cons ⟨t1, rfl⟩ (.cons ⟨t2, rfl⟩ (.cons ⟨t3, rfl⟩ .nil))⟩⟩
def inGT (xs : List Str) (t : T) (Q : T → Prop) : Prop := ∃ s : Str, t = .fz (.str s) ∧ Q (.fz (.bl (xs.any fun y => eqV (.str y) (.str s))))
theorem q_inGT {xs : List Str} (hg : Gl X x) (hm : GlobT X.K X.mg x xs) (ha : QP X W M ra a pa) (hd : (x == ("__debug__" : Str)) = false := by decide) : QE X W M (.Compare a [.In] [.Name x p] pos) (s1 pa (inGT xs)) :=
  let ⟨g, h, hs⟩ := hm
  have hr : Op1 X.K (fun y H Q => rIn X.K false y (.ref g) H Q) (inGT xs) := by
    intro H ow n v t Q Qv rx ⟨s, e, q⟩ k
    subst e
    have r := rx.rd
    cases r
    refine ⟨g, xs.map V.str, rfl, .inr (hs H), rfl, by simp [flatV], ?_⟩
    have e : inV (.str s) (xs.map V.str) = xs.any fun y => eqV (.str y) (.str s) := by simp [inV, List.any_map, Function.comp_def]
    simp only [Bool.false_eq_true, if_false]
    rw [e]
    exact k _ _ H ow Stp.refl (Tq.fz_.mpr (.bl _)) q
  ⟨PE_imp (pe_cmpR op_in_seq ha.run (pe_glob (v := .ref g) hg h rfl hd) (by rfl)) fun σ H Qv ⟨n, ow, env, Q, E, s, hq, k, xx⟩ => ⟨n, ow, env, _, E, s, hq, fun v t pt H' ow' env' y1 s' o r q => hr H' ow' n v t _ Qv (r.ro s') q fun v' w H2 ow2 y2 r3 q3 =>
    k v' w H2 ow2 env' (y1.trans y2 (fun _ h => h) nilsub (Nat.le_refl _) (Nat.le_refl _)) (s'.stp0 y2) o r3 q3, xx⟩⟩
end
end QV

set_option Elab.async false
set_option linter.all false
set_option maxRecDepth 100000
set_option maxHeartbeats 2000000
namespace QV
open PySem PySem.Spec PyProof.Rows L2
def dnD (hi : Int) (n : Nat) : List D := (List.range n).map fun k => D.int (hi + (k : Nat) * (-1))
theorem dnD_len {lo : Int} {n : Nat} : (dnD lo n).length = n := by unfold dnD; rw [List.length_map, List.length_range]
theorem dnD_get {lo : Int} {n i : Nat} {d : D} (h : (dnD lo n)[i]? = some d) : i < n ∧ d = .int (lo + (i : Nat) * (-1)) := by
  unfold dnD at h
  rw [List.getElem?_map] at h
  by_cases hi : i < n
  · rw [List.getElem?_range hi] at h
    cases h
    exact ⟨hi, rfl⟩
  · rw [List.getElem?_eq_none (by simpa using hi)] at h
    cases h
section
variable {K : PySem.W.Frag} {H : Hp} {ow : Ow}
theorem itd_dn {lo : Int} {n : Nat} (hz : n ≤ sizeLine) : ItD K H ow (Itc lo (-1) n) (dnD lo n) :=
  ⟨fun i d H' ow' x e => (dnD_get e).1, fun i d H' ow' y H2 x e q => by
    obtain ⟨rfl, rfl⟩ := q
    rw [(dnD_get e).2]
    exact ⟨ow', Ext.refl, .int _⟩, fun H' ow' x => Nat.le_of_eq dnD_len.symm, by rw [dnD_len]; exact hz⟩
end
section
variable {X : Cx} {W : WX} {Ma Mb Mc : List Nat} {a b c tg : Expr} {qa qb qc : SemE} {p pos : Pos}
def iDn (qa qb qc : SemE) : SemI := fun env Q E => qa env (fun t env1 => qb env1 (fun u env2 => qc env2 (fun w env3 => match t, u, w with
  | .fz (.int i), .fz (.int j), .fz (.int c) => c = -1 ∧ -(2 ^ 62) ≤ i ∧ i < 2 ^ 62 ∧ -(2 ^ 62) ≤ j ∧ j < 2 ^ 62 ∧ i - j ≤ sizeLine ∧ Q (dnD i (i - j).toNat) env3
  | _, _, _ => False) E) E) E
theorem i_dn (hg : Gl X "range") (hm : X.mg "range" = none) (ha : QE X W Ma a qa) (hb : QE X W Mb b qb) (hc : QE X W Mc c qc) (hs : starEach [a, b, c] X.env = (false, eval a X.env) :: starEach [b, c] X.env := by rfl)
    (hs2 : starEach [b, c] X.env = (false, eval b X.env) :: starEach [c] X.env := by rfl) (hs3 : starEach [c] X.env = (false, eval c X.env) :: starEach [] X.env := by rfl) (hpl : (backTo pos (starEach [b, c] X.env)).any (·.1) = false := by rfl) :
    QI X W (Ma ++ (Mb ++ Mc)) tg (.Call (.Name "range" p) [a, b, c] [] pos) (iDn qa qb qc) :=
  ⟨PI_imp (pi_range3 hg hm (pa_cons ha.run (pa_cons hb.run (pa_cons hc.run pa_nil hs3) hs2) hs) hs hpl) fun σ H R ⟨n, ow, env, Q, E, s, hq, k, x⟩ => ⟨n, ow, env, _, E, s, hq, fun v t H1 ow1 env1 y1 s1 o1 r1 z1 =>
    ⟨n + 1, ow1, env1, _, E, s1, z1, fun w u H2 ow2 env2 y2 s2 o2 r2 z2 =>
      ⟨n + 1 + 1, ow2, env2, _, E, s2, z2, fun w3 u3 H3 ow3 env3 y3 s3 o3 r3 z3 => by
        split at z3
        · rename_i i j c
          have e1 := Tq.rd r1
          cases e1
          have e2 := Tq.rd r2
          cases e2
          have e3 := Tq.rd r3
          cases e3
          obtain ⟨rfl, h1, h2, h3, h4, h5, z3⟩ := z3
          exact ⟨i, j, -1, _, rfl, RgC.neg h1 h2 h3 h4, k _ _ H3 ow3 env3 (y1.trans (y2.trans y3 subl subr (Nat.le_refl _) (Nat.le_succ _)) subl subr (Nat.le_refl _) (Nat.le_succ _)) s3 (o1.trans (o2.trans o3 subl subr) subl subr) (itd_dn (by omega)) z3⟩
        · exact z3.elim, (x.step y1 o1 subl subr (Nat.le_refl _) (Nat.le_succ _)).step y2 o2 subl subr (Nat.le_refl _) (Nat.le_succ _)⟩, fun r d H' ow' env' y s' o => (x.step y1 o1 subl subr (Nat.le_refl _) (Nat.le_succ _)) r d H' ow' env' (y.mono subl (Nat.le_refl _)) s' (o.mono subl)⟩, fun r d H' ow' env' y s' o => x r d H' ow' env' (y.mono subl (Nat.le_refl _)) s' (o.mono subl)⟩⟩
end
end QV

set_option Elab.async false
set_option linter.all false
set_option maxRecDepth 100000
set_option maxHeartbeats 2000000
namespace QV
open PySem PySem.Spec PyProof.Rows L2
def fIx : List Str → Str → Option Nat
  | [], _ => none
  | k :: ks, f => if (f == k) = true then some 0 else (fIx ks f).map (· + 1)
theorem zip_fix {f : Str} : ∀ {ks : List Str} {vs : List V} {j : Nat} {w : V}, fIx ks f = some j → vs[j]? = some w → (ks.zip vs).lookup f = some w
  | [], _, _, _, h, _ => by simp [fIx] at h
  | k :: ks, [], _, _, _, h => by simp at h
  | k :: ks, v :: vs, j, w, h, e => by
    rw [List.zip_cons_cons, List.lookup_cons]
    rw [fIx] at h
    by_cases z : (f == k) = true
    · rw [if_pos z] at h
      cases h
      rw [z]
      simpa using e
    · rw [if_neg z] at h
      have z' : (f == k) = false := by simpa using z
      rw [z']
      cases q : fIx ks f with
      | none => rw [q] at h; cases h
      | some i =>
        rw [q] at h
        cases h
        exact zip_fix q (by simpa using e)
def fldP (C : Addr) (f : Str) (t : T) (pt : List Nat) (Q : T → List Nat → Prop) : Prop := match t with
  | .nd (.ins C' ks) ts => C' = C ∧ ∃ j, fIx ks f = some j ∧ ∃ t', ts[j]? = some t' ∧ Q t' (pt ++ [j])
  | .fz (.nd (.ins C' ks) ds) => C' = C ∧ ∃ d, (ks.zip ds).lookup f = some d ∧ Q (.fz d) []
  | .ow (.ins C' ks) ds => C' = C ∧ ∃ d, (ks.zip ds).lookup f = some d ∧ Q (.fz d) []
  | _ => False
def sPfld (C : Addr) (f : Str) (pa : SemP) : SemP := fun env Q E => pa env (fun t pt env1 => fldP C f t pt fun t' pt' => Q t' pt' env1) E
section
variable {X : Cx} {W : WX} {M Ma Mb IO : List Nat} {e o ix : Expr} {q qi : SemE} {pa : SemP} {ra : Option Nat} {C : Addr} {x : Str} {pos tpos : Pos}
theorem p_fld (c : Cls X.K C) (hn : NoAttr X.K C x) (ha : QP X W M ra e pa) (hb : attributeBase e x X.env (eval e X.env) = eval e X.env := by rfl) : QP X W M ra (.Attribute e x pos) (sPfld C x pa) :=
  ⟨PE_imp (pe_fld ha.run hb) fun σ H Qv ⟨n, ow, env, Q, E, s, hq, k, xx⟩ => ⟨n, ow, env, _, E, s, hq, fun v t pt H1 ow1 env1 y1 s1 o1 r1 z => by
    have rx : Ro X.K H1 ow1 v t := r1.ro s1
    unfold fldP at z
    split at z
    · obtain ⟨rfl, j, hj, t', ht, z⟩ := z
      obtain ⟨a, dx, vs, rfl, cc, l, kid⟩ := r1.kid s1
      have hv : j < vs.length := by rw [l]; exact (List.getElem?_eq_some_iff.mp ht).1
      exact ⟨a, _, dx, _, vs[j], rfl, cc.at_, c, hn, zip_fix hj (by simp [hv]), k _ _ _ H1 ow1 env1 y1 s1 o1 (kid j _ _ (by simp [hv]) ht) z⟩
    · obtain ⟨rfl, d, hl, z⟩ := z
      obtain ⟨l, rx⟩ := rx
      cases Tq.fz_.mp rx with
      | cell _ cc rr =>
        obtain ⟨v', h1, h2⟩ := zip_look cc.fit.1 rr hl
        exact ⟨_, _, _, _, v', rfl, (bs_some cc.at_).2, c, hn, h1, k v' (.fz d) [] H1 ow1 env1 y1 s1 o1 (plc_fz h2) z⟩
    · obtain ⟨rfl, d, hl, z⟩ := z
      obtain ⟨l, S, rx⟩ := rx
      cases rx with
      | ow cc _ rr =>
        obtain ⟨v', h1, h2⟩ := zip_look cc.fit.1 rr hl
        exact ⟨_, _, _, _, v', rfl, cc.at_, c, hn, h1, k v' (.fz d) [] H1 ow1 env1 y1 s1 o1 (plc_fz h2) z⟩
    · exact z.elim, xx⟩⟩
end
section
variable {κ : Type} [DecidableEq κ] {α : Type}
def hasG (ks : List κ) (k : κ) : Bool := ks.any fun x => decide (x = k)
def pKs (ks : List κ) (k : κ) : List κ := if hasG ks k = true then ks else ks ++ [k]
def pVs (ks : List κ) (vs : List α) (k : κ) (v : α) : List α := if hasG ks k = true then (ks.zip vs).map (fun p => if p.1 = k then v else p.2) else vs ++ [v]
theorem zipG_any {k : κ} : ∀ {ks : List κ} {vs : List α}, ks.length = vs.length → ((ks.zip vs).any fun kv => decide (kv.1 = k)) = hasG ks k
  | [], [], _ => rfl
  | k0 :: ks, v0 :: vs, h => by
    have ih := zipG_any (k := k) (ks := ks) (vs := vs) (by simpa using h)
    unfold hasG at ih ⊢
    rw [List.zip_cons_cons, List.any_cons, List.any_cons, ih]
theorem zipG_map {k : κ} {v : α} : ∀ {ks : List κ} {vs : List α}, ks.length = vs.length → (ks.zip vs).map (fun kv => if kv.1 = k then (kv.1, v) else kv) = ks.zip ((ks.zip vs).map fun p => if p.1 = k then v else p.2)
  | [], [], _ => rfl
  | k0 :: ks, v0 :: vs, h => by
    rw [List.zip_cons_cons, List.map_cons, List.map_cons, List.zip_cons_cons, zipG_map (by simpa using h)]
    by_cases e : k0 = k <;> simp [e]
theorem putG_zip {k : κ} {ks : List κ} {vs : List V} {v : V} (h : ks.length = vs.length) : putK (ks.zip vs) k v = (pKs ks k).zip (pVs ks vs k v) := by
  unfold putK pKs pVs
  rw [zipG_any h]
  by_cases e : hasG ks k = true
  · rw [if_pos e, if_pos e, if_pos e]
    exact zipG_map h
  · rw [if_neg e, if_neg e, if_neg e, List.zip_append h]
    rfl
theorem putG_len {k : κ} {ks : List κ} {vs : List α} {v : α} (h : ks.length = vs.length) : (pKs ks k).length = (pVs ks vs k v).length := by
  unfold pKs pVs
  by_cases e : hasG ks k = true
  · rw [if_pos e, if_pos e, List.length_map, List.length_zip]; omega
  · rw [if_neg e, if_neg e, List.length_append, List.length_append, h]; rfl
theorem pKs_le {k : κ} {ks : List κ} : (pKs ks k).length ≤ ks.length + 1 := by
  unfold pKs
  split
  · omega
  · rw [List.length_append]; exact Nat.le_refl _
variable {K : PySem.W.Frag} {B : Hp}
theorem rpsG_map {k : κ} {v : V} {d : D} (rv : Rp K B v d) : ∀ {ks : List κ} {vs : List V} {ds : List D}, Rps K B vs ds → Rps K B ((ks.zip vs).map fun p => if p.1 = k then v else p.2) ((ks.zip ds).map fun p => if p.1 = k then d else p.2)
  | [], _, _, _ => by simp; exact .nil
  | k0 :: ks, [], [], .nil => by simp; exact .nil
  | k0 :: ks, _ :: _, _ :: _, .cons r s => by
    rw [List.zip_cons_cons, List.zip_cons_cons, List.map_cons, List.map_cons]
    refine .cons ?_ (rpsG_map rv s)
    by_cases e : k0 = k
    · simp only [e, if_true]; exact rv
    · simp only [e, if_false]; exact r
theorem rpsG_put {k : κ} {v : V} {d : D} {ks : List κ} {vs : List V} {ds : List D} (rv : Rp K B v d) (r : Rps K B vs ds) : Rps K B (pVs ks vs k v) (pVs ks ds k d) := by
  unfold pVs
  by_cases e : hasG ks k = true
  · rw [if_pos e, if_pos e]; exact rpsG_map rv r
  · rw [if_neg e, if_neg e]; exact r.app (.cons rv .nil)
end
def isDk : T → Bool
  | .ow (.dK _) _ => true
  | .ow (.dT _) _ => true
  | _ => false
def dputP (t : T) (kd d : D) (Q : T → Prop) : Prop := match t with
  | .ow (.dK ks) ds => ∃ k, keyD kd = some k ∧ ks.length < sizeLine ∧ Q (.ow (.dK (pKs ks k)) (pVs ks ds k d))
  | .ow (.dT ks) ds => ∃ es k, kd = .nd .tup es ∧ keysD es = some k ∧ ks.length < sizeLine ∧ Q (.ow (.dT (pKs ks k)) (pVs ks ds k d))
  | _ => False
def sDputP (i : Nat) (q : SemE) (pa : SemP) (qi : SemE) : SemS := fun D env => q env (fun u env1 => pa env1 (fun t pt env2 => isDk t = true ∧ qi env2 (fun w env3 => match u, w, env3[i]? with
  | .fz d, .fz kd, some (some t0) => dputP t kd d fun t' => D.nx (env3.set i (some (t0.put pt t')))
  | _, _, _ => False) D.ex) D.ex) D.ex
section
variable {X : Cx} {W : WX} {M Ma Mb IO : List Nat} {e o ix : Expr} {q qi : SemE} {pa : SemP} {pos tpos : Pos}
theorem isDk_kids {t : T} (h : isDk t = true) : ∃ k ds, t = .ow k ds ∧ t.kids = some (k, ds.map .fz) := by
  unfold isDk at h
  split at h
  · exact ⟨_, _, rfl, rfl⟩
  · exact ⟨_, _, rfl, rfl⟩
  · cases h
theorem s_dputP (i : Nat) (hu : X.A.units + 65 < cLine) (he : QE X W M e q) (ho : QP X W Ma (some i) o pa) (hix : QE X W Mb ix qi) (hr : okR (some i) Mb = true := by decide)
    (ha : ∀ v, assign (.Subscript o ix tpos) X.env v = (do
      let ov ← holding [v] (eval o X.env)
      let iv ← holding [v, ov] (eval ix X.env)
      standAt tpos
      holding [v, ov, iv] (setItem ov iv v)
      release [v, ov, iv] []) := by intro _; rfl) (hs : swapsWithSole [.Subscript o ix tpos] e pos.line X.env = pure false := by rfl) (hw : swappedStores [.Subscript o ix tpos] e X.env = pure none := by rfl)
    (h1 : (assignEach [.Subscript o ix tpos] X.env).map (·.2) = [assign (.Subscript o ix tpos) X.env] := by rfl) : QS X W IO (.Assign [.Subscript o ix tpos] e pos) (sDputP i q pa qi) :=
  ⟨PS_imp (ps_asg he.run (pg_sub ho.run hix.run (set_dict (by omega)) ha) hs hw h1) fun D σ H ⟨ow, env, De, s, hq, k⟩ => ⟨0, ow, env, _, De.ex, s, hq, fun w u H0 ow0 env0 y0 s0 _ r0 q0 =>
    ⟨1, ow0, env0, _, De.ex, s0, q0, fun v t pt H1 ow1 env1 y1 s1 o1 r1 ⟨hk, q1⟩ => by
      obtain ⟨kk, ds, et, ek⟩ := isDk_kids hk
      obtain ⟨v0, t0, e1, e2, sb⟩ := r1.own ek
      have r0' : Tq X.K H1 ow1 (.tm 0) w u := (y1.car (l := .tm 0) Nat.zero_lt_one).tq r0
      refine ⟨2, ow1, env1, _, De.ex, s1, q1, fun kv kt H2 ow2 env2 y2 s2 o2 r2 q2 => ?_, ((k.ex.step y0.fs Ios.refl).step y1.fs Ios.refl).xk⟩
      have hi := okR_some hr
      have r0'' : Tq X.K H2 ow2 (.tm 0) w u := (y2.car (l := .tm 0) (by show 0 < 2; decide)).tq r0'
      have e2' : env2[i]? = some (some t0) := (o2.eq i hi).trans e2
      have sb' : Sub X.K H2 ow2 (.sl i) v0 t0 pt v t := sb.car (y2.car (l := .sl i) hi)
      split at q2
      · rename_i d kd t0' e3 _
        rw [e2'] at e3
        cases e3
        obtain ⟨a, dx, us, S, ea, c, rr, go⟩ := put_run (m := 0) s2 e1 e2' sb' ek
        subst ea
        -- a new dict in its place
        have key : ∀ {k' : Kd} {us' : List V} {ds' : List QV.D}, (∀ b, Foot a dx k' b → b = a) → (∀ b, Foot a dx kk b → b = a) → us'.length ≤ sizeLine → (∀ H' : Hp, H' a = some (HOof k' dx us') → Fits H' a dx k' us') → (∀ B : Hp, Rp X.K B w d → Rps X.K B us ds → Rps X.K B us' ds') →
            DPut H2 a kv w (upd H2 a (HOof k' dx us')) → De.nx (env2.set i (some (t0.put pt (.ow k' ds')))) → rSetD (.ref a) kv w H2 fun H3 => D.nx σ H3 := fun {k' us' ds'} hf hf0 hz hfit hrp hd z => by
          refine ⟨a, _, rfl, hd, ?_⟩
          obtain ⟨Bs', rS, rW, rF, fin⟩ := go (HOof k' dx us')
          have rd : Rp X.K _ w d := (Tq.fz_.mp r0'').mono Bs'
          obtain ⟨y3, s3, o3⟩ := fin (.ow k' ds') (Foot a dx k') (.ow ⟨upd_same, hz, hfit _ upd_same⟩ (fun b fb => by
            rw [hf b fb]; exact (rF a foot_a).1) (hrp _ rd (tps_data rS).1)) fun b hb => .inl (by rw [hf b hb]; exact foot_a)
          exact k.nx _ _ _ _ (((y0.fs.trans y1.fs).trans y2.fs).trans y3.fs) Ios.refl s3 z
        subst et
        unfold dputP at q2
        split at q2
        · rename_i ks ds' eq
          cases eq
          obtain ⟨kx, hk1, hl, z⟩ := q2
          have hkv : kv = kV kx := Ro.key (ow := ow2) ⟨.tm 2, r2⟩ hk1
          subst hkv
          have hlen := putG_len (k := kx) (v := w) c.fit
          have hus : us.length = ks.length := c.fit.symm
          refine key (k' := .dK (pKs ks kx)) (us' := pVs ks us kx w) (fun b fb => fb) (fun b fb => fb) (by rw [← hlen]; have := pKs_le (k := kx) (ks := ks); omega) (fun H' _ => hlen) (fun B rd rs => rpsG_put rd rs) ?_ z
          have := DPut.k (k := kx) (v := w) c.at_ (by rw [List.length_zip]; omega)
          rw [putG_zip c.fit] at this
          exact this
        · rename_i ks ds' eq
          cases eq
          obtain ⟨es, kx, rfl, hk1, hl, z⟩ := q2
          obtain ⟨b, rfl, hb⟩ := Ro.keyT (ow := ow2) (ds := es) ⟨.tm 2, r2⟩ rfl hk1
          have hlen := putG_len (k := kx) (v := w) c.fit
          have hus : us.length = ks.length := c.fit.symm
          refine key (k' := .dT (pKs ks kx)) (us' := pVs ks us kx w) (fun b fb => fb) (fun b fb => fb) (by rw [← hlen]; have := pKs_le (k := kx) (ks := ks); omega) (fun H' _ => hlen) (fun B rd rs => rpsG_put rd rs) ?_ z
          have := DPut.t (k := kx) (v := w) c.at_ hb (by rw [List.length_zip]; omega)
          rw [putG_zip c.fit] at this
          exact this
        · exact q2.elim
      · exact q2.elim, (k.ex.step y0.fs Ios.refl).xk⟩, k.ex.xk⟩⟩
end
def sD0T : SemE := fun env Q _ => Q (.ow (.dT []) []) env
theorem q_dict0T {X : Cx} {W : WX} {pos : Pos} : QE X W [] (.Dict [] [] pos) sD0T :=
  ⟨PE_imp pe_dnewT fun σ H Qv ⟨n, ow, env, Q, E, s, hq, k, x⟩ p hp => k _ _ _ (Ow.put ow p (.tm n)) env (Stp.new hp) (s.stp0 (n := 0) (Stp.new hp)) Out.refl
    ⟨_, .ow (k := .dT []) (dx := p) (vs := []) ⟨upd_same, by decide, show ([] : List (List Key)).length = ([] : List V).length from rfl⟩ (fun b fb => by have e : b = p := fb; rw [e]; exact put_same) .nil⟩ hq⟩
end QV

set_option Elab.async false
set_option linter.all false
set_option maxRecDepth 100000
set_option maxHeartbeats 4000000
namespace QV
open PySem PySem.Spec PyProof.Rows L2
theorem bt_setB : bootBuiltins "set" = some (.type "set") := by decide +kernel
abbrev pr2D (p : Int × Int) : D := .nd .tup [.int p.1, .int p.2]
def pLt (p q : Int × Int) : Prop := p.1 < q.1 ∨ (p.1 = q.1 ∧ p.2 < q.2)
theorem pairs_of {K : PySem.W.Frag} {B : Hp} : ∀ {vs : List V} {ps : List (Int × Int)}, Rps K B vs (ps.map pr2D) → ∃ ks : List (Addr × List Int), vs = ks.map (fun p => V.ref p.1) ∧ ks.map (·.2) = ps.map (fun p => [p.1, p.2]) ∧ ∀ p, p ∈ ks → B p.1 = some (.tup (p.2.map V.int))
  | _, [], h => by cases h; exact ⟨[], rfl, rfl, by simp⟩
  | _, (x, y) :: ps, h => by
    cases h with
    | cons r s =>
      obtain ⟨ks, rfl, h2, h3⟩ := pairs_of s
      cases r with
      | tup c z r =>
        cases r with
        | cons r1 r =>
          cases r with
          | cons r2 r =>
            cases r
            cases r1
            cases r2
            exact ⟨(_, [x, y]) :: ks, rfl, by rw [List.map_cons, List.map_cons, h2], fun p hp => by
              rcases List.mem_cons.mp hp with rfl | q
              · exact c
              · exact h3 p q⟩
      | cell hn _ _ => exact absurd rfl hn
def sortSetPG (t : T) (Q : T → Prop) : Prop := ∃ ps : List (Int × Int), shL t = some (ps.map pr2D) ∧ ps.length < 64 ∧ (∀ p, p ∈ ps → (0 ≤ p.1 ∧ p.1 < 64) ∧ (0 ≤ p.2 ∧ p.2 < 64)) ∧ ∀ qs : List (Int × Int), qs.Pairwise pLt → (∀ p, p ∈ qs ↔ p ∈ ps) → Q (.ow .lst (qs.map pr2D))
theorem rps_pairs {K : PySem.W.Frag} {B : Hp} : ∀ {ks : List (Addr × List Int)}, (∀ p, p ∈ ks → B p.1 = some (.tup (p.2.map V.int)) ∧ ∃ x y, p.2 = [x, y]) → ∃ qs : List (Int × Int), ks.map (·.2) = qs.map (fun p => [p.1, p.2]) ∧ Rps K B (ks.map fun p => V.ref p.1) (qs.map pr2D)
  | [], _ => ⟨[], rfl, .nil⟩
  | (a, l) :: ks, h => by
    obtain ⟨qs, h1, h2⟩ := rps_pairs (ks := ks) fun p hp => h p (List.mem_cons_of_mem _ hp)
    obtain ⟨c, x, y, e⟩ := h (a, l) (by simp)
    have e : l = [x, y] := e
    subst e
    exact ⟨(x, y) :: qs, by rw [List.map_cons, List.map_cons, h1], .cons (.tup c (Nat.le_trans (show 2 ≤ 1000 by decide) (by decide)) (.cons (.int x) (.cons (.int y) .nil))) h2⟩
theorem pw_pairs : ∀ {ks : List (Addr × List Int)} {qs : List (Int × Int)}, ks.map (·.2) = qs.map (fun p => [p.1, p.2]) → (ks.map (·.2)).Nodup → ks.Pairwise (fun q r => TS.code 64 q.2 ≤ TS.code 64 r.2) → (∀ p, p ∈ qs → (0 ≤ p.1 ∧ p.1 < 64) ∧ (0 ≤ p.2 ∧ p.2 < 64)) → qs.Pairwise pLt := by
  intro ks qs h nd pw hb
  have pw2 : (qs.map fun p => ([p.1, p.2] : List Int)).Pairwise (fun q r => TS.code 64 q ≤ TS.code 64 r) := by
    rw [← h]; exact List.pairwise_map.mpr pw
  have nd2 : (qs.map fun p => ([p.1, p.2] : List Int)).Pairwise (· ≠ ·) := by rw [← h]; exact nd
  have both := (List.pairwise_map.mp pw2).and (List.pairwise_map.mp nd2)
  refine both.imp_of_mem fun {p q} hp hq h => ?_
  obtain ⟨b1, b2⟩ := hb p hp
  obtain ⟨b3, b4⟩ := hb q hq
  exact pair_lt h.1 h.2 b1 b2 b3 b4
section
variable {X : Cx} {W : WX} {M : List Nat} {e : Expr} {pa : SemP} {root : Option Nat} {p p2 pos pos2 : Pos}
theorem q_sortSetP (hc : X.calm = true) (hu : X.A.units + 65 < cLine) (hg : Gl X "sorted") (hm : X.mg "sorted" = none) (hg2 : Gl X "set") (hm2 : X.mg "set" = none) (ha : QP X W M root e pa)
    (he : starEach [e] X.env = (false, eval e X.env) :: starEach [] X.env := by rfl) (hpl : (backTo pos2 (starEach [] X.env)).any (·.1) = false := by rfl)
    (he2 : starEach [.Call (.Name "set" p2) [e] [] pos2] X.env = (false, eval (.Call (.Name "set" p2) [e] [] pos2) X.env) :: starEach [] X.env := by rfl) (hpl2 : (backTo pos (starEach [] X.env)).any (·.1) = false := by rfl) :
    QE X W M (.Call (.Name "sorted" p) [.Call (.Name "set" p2) [e] [] pos2] [] pos) (s1 pa sortSetPG) :=
  ⟨PE_imp (pe_callB (cr_sortedT hc) hg hm bt_sorted (pa_cons (pe_callTy (cr_setOfT hc (by omega)) hg2 hm2 bt_setB (pa_cons ha.run pa_nil he) (by decide) (by decide) he hpl) pa_nil he2) (by decide) (by decide) he2 hpl2) fun σ H Qv ⟨n, ow, env, Q, E, s, hq, k, x⟩ =>
    ⟨n, ow, env, _, E, s, hq, fun v t pt H' ow' env' y1 s' o r ⟨ps, e1, hl, hb, z⟩ => by
      obtain ⟨a, vs, rfl, c, hz, rr⟩ := (r.ro s').lst e1
      obtain ⟨ks, rfl, h2, h3⟩ := pairs_of rr
      have hkl : ks.length = ps.length := by have := congrArg List.length h2; simpa using this
      refine ⟨a, ks, rfl, .inl (.inl c), fun p hp => sqT_of (bs_some (h3 p hp)).2, by omega, fun p L hp hs1 hs2 => ?_⟩
      have ne : ∀ q, q ∈ ks → q.1 ≠ p := fun q hq' ez => by
        have := (bs_some (h3 q hq')).2
        rw [ez, hp] at this
        cases this
      have kp : ∀ q, q ∈ ks → ∃ x y, q.2 = [x, y] ∧ (x, y) ∈ ps := fun q hq' => by
        have : q.2 ∈ ps.map (fun p => [p.1, p.2]) := by rw [← h2]; exact List.mem_map.mpr ⟨q, hq', rfl⟩
        obtain ⟨w, hw, e⟩ := List.mem_map.mp this
        exact ⟨w.1, w.2, e.symm, hw⟩
      refine ⟨p, L, 2, 64, rfl, upd_same, fun q hq' => sqT_of (by rw [upd_ne (ne q (hs1 q hq'))]; exact (bs_some (h3 q (hs1 q hq'))).2), by decide, fun q hq' => ?_, fun L' p2 pm nd hl' pw hp2 => ?_⟩
      · obtain ⟨x, y, e, hw⟩ := kp q (hs1 q hq')
        rw [e]
        obtain ⟨b1, b2⟩ := hb _ hw
        exact ⟨rfl, fun i hi => by
          simp only [List.mem_cons, List.not_mem_nil, or_false] at hi
          rcases hi with rfl | rfl
          · exact b1
          · exact b2⟩
      · have hL : ∀ q, q ∈ L' → q ∈ ks := fun q hq' => hs1 q (pm.mem_iff.mp hq')
        obtain ⟨qs, g1, g2⟩ := rps_pairs (K := X.K) (B := Bs H' ow') (ks := L') fun q hq' => ⟨h3 q (hL q hq'), let ⟨x, y, e, _⟩ := kp q (hL q hq'); ⟨x, y, e⟩⟩
        have mem : ∀ w, w ∈ qs ↔ w ∈ ps := fun w => by
          constructor
          · intro hw
            have : ([w.1, w.2] : List Int) ∈ L'.map (·.2) := by rw [g1]; exact List.mem_map.mpr ⟨w, hw, rfl⟩
            obtain ⟨q, hq', e⟩ := List.mem_map.mp this
            obtain ⟨x, y, e2, hw2⟩ := kp q (hL q hq')
            rw [e2] at e
            injection e with e3 e4
            injection e4 with e5 _
            have : w = (x, y) := Prod.ext e3.symm e5.symm
            rw [this]; exact hw2
          · intro hw
            have : ([w.1, w.2] : List Int) ∈ ks.map (·.2) := by rw [h2]; exact List.mem_map.mpr ⟨w, hw, rfl⟩
            obtain ⟨q, hq', e⟩ := List.mem_map.mp this
            have e : q.2 = [w.1, w.2] := e
            have h5 : [w.1, w.2] ∈ L.map (·.2) := by rw [← e]; exact hs2 q hq'
            have h6 : [w.1, w.2] ∈ L'.map (·.2) := (pm.map (·.2)).mem_iff.mpr h5
            rw [g1] at h6
            obtain ⟨w2, hw2, e6⟩ := List.mem_map.mp h6
            injection e6 with e3 e4
            injection e4 with e5 _
            have : w = w2 := Prod.ext e3.symm e5.symm
            rw [this]; exact hw2
        have hpw := pw_pairs g1 nd pw fun w hw => hb w ((mem w).mp hw)
        have ya : Stp M n H' ow' (upd H' p (SetTO X.prog X.w p L)) (Ow.put ow' p (.tm (n + 1))) := Stp.new hp
        have yb : Stp M n (upd H' p (SetTO X.prog X.w p L)) (Ow.put ow' p (.tm (n + 1))) (upd (upd H' p (SetTO X.prog X.w p L)) p2 (.lst (L'.map fun q => V.ref q.1))) (Ow.put (Ow.put ow' p (.tm (n + 1))) p2 (.tm n)) := Stp.new hp2
        have ya' := ya.bs
        exact k _ _ _ _ env' ((y1.trans ya (fun _ h => h) (fun _ h => h) (Nat.le_refl _) (Nat.le_refl _)).trans yb (fun _ h => h) (fun _ h => h) (Nat.le_refl _) (Nat.le_refl _)) ((s'.stp0 (n := 0) (Stp.new hp)).stp0 (n := 0) (Stp.new hp2)) o
          (Tq.newL hp2 (by rw [List.length_map]; exact Nat.le_trans (show L'.length ≤ 1000 by omega) (by decide)) (g2.mono ya')) (z qs hpw mem), x⟩⟩
end
end QV

set_option Elab.async false
set_option linter.all false
set_option maxRecDepth 100000
set_option maxHeartbeats 4000000
namespace My
open PySem L2 QV
def top (i : Nat) : Stmt := PySem.Challenge.pw_bedstone_k55_whole_closed.main.body.getD i (.Pass ⟨0, 0, 0, 0⟩)
structure Bt (mg : Str → Option Value) : Prop where
  abs : mg "abs" = none
  all : mg "all" = none
  any : mg "any" = none
  bool : mg "bool" = none
  enumerate : mg "enumerate" = none
  int : mg "int" = none
  isinstance : mg "isinstance" = none
  len : mg "len" = none
  list : mg "list" = none
  max : mg "max" = none
  min : mg "min" = none
  range : mg "range" = none
  repr : mg "repr" = none
  set : mg "set" = none
  sorted : mg "sorted" = none
  str : mg "str" = none
  sum : mg "sum" = none
  tuple : mg "tuple" = none
  g_FAR : ∃ t, mg "FAR" = some (.int 1000000 t)
  g_LETTERS : ∃ t, mg "LETTERS" = some (.str ("abcdefghijklmnopqrstuvwxyz" : Str) t)
  g_LONGEST_GRAIN : ∃ t, mg "LONGEST_GRAIN" = some (.int 8 t)
  g_MOST_COURSES : ∃ t, mg "MOST_COURSES" = some (.int 6 t)
  g_MOST_MEASURE : ∃ t, mg "MOST_MEASURE" = some (.int 1000000 t)
  g_MOST_OF_MARK : ∃ t, mg "MOST_OF_MARK" = some (.int 24 t)
  g_MOST_PLACES : ∃ t, mg "MOST_PLACES" = some (.int 24 t)

abbrev s_is_whole : Stmt := top 14
theorem sc_is_whole : FnScope ["thing"] ["thing"] (defScope s_is_whole) := ⟨rfl, rfl, rfl, by decide +kernel, rfl, by decide +kernel, by decide +kernel⟩
abbrev s_is_between : Stmt := top 15
theorem sc_is_between : FnScope ["thing", "least", "most"] ["thing", "least", "most"] (defScope s_is_between) := ⟨rfl, rfl, rfl, by decide +kernel, rfl, by decide +kernel, by decide +kernel⟩
abbrev s_are_between : Stmt := top 16
theorem sc_are_between : FnScope ["things", "least", "most", "thing"] ["things", "least", "most"] (defScope s_are_between) := ⟨rfl, rfl, rfl, by decide +kernel, rfl, by decide +kernel, by decide +kernel⟩
abbrev s_is_measure : Stmt := top 17
theorem sc_is_measure : FnScope ["thing"] ["thing"] (defScope s_is_measure) := ⟨rfl, rfl, rfl, by decide +kernel, rfl, by decide +kernel, by decide +kernel⟩
abbrev s_is_spot : Stmt := top 18
theorem sc_is_spot : FnScope ["thing"] ["thing"] (defScope s_is_spot) := ⟨rfl, rfl, rfl, by decide +kernel, rfl, by decide +kernel, by decide +kernel⟩
abbrev s_is_grain : Stmt := top 19
theorem sc_is_grain : FnScope ["thing", "sign"] ["thing"] (defScope s_is_grain) := ⟨rfl, rfl, rfl, by decide +kernel, rfl, by decide +kernel, by decide +kernel⟩
abbrev s_is_lie : Stmt := top 20
theorem sc_is_lie : FnScope ["thing"] ["thing"] (defScope s_is_lie) := ⟨rfl, rfl, rfl, by decide +kernel, rfl, by decide +kernel, by decide +kernel⟩
abbrev s_is_mark : Stmt := top 21
theorem sc_is_mark : FnScope ["thing"] ["thing"] (defScope s_is_mark) := ⟨rfl, rfl, rfl, by decide +kernel, rfl, by decide +kernel, by decide +kernel⟩
abbrev s_is_place : Stmt := top 26
theorem sc_is_place : FnScope ["thing"] ["thing"] (defScope s_is_place) := ⟨rfl, rfl, rfl, by decide +kernel, rfl, by decide +kernel, by decide +kernel⟩
abbrev s_is_course : Stmt := top 27
theorem sc_is_course : FnScope ["thing", "place"] ["thing"] (defScope s_is_course) := ⟨rfl, rfl, rfl, by decide +kernel, rfl, by decide +kernel, by decide +kernel⟩
abbrev s_are_courses : Stmt := top 28
theorem sc_are_courses : FnScope ["thing", "course"] ["thing"] (defScope s_are_courses) := ⟨rfl, rfl, rfl, by decide +kernel, rfl, by decide +kernel, by decide +kernel⟩
abbrev s_are_marks : Stmt := top 29
theorem sc_are_marks : FnScope ["thing", "mark"] ["thing"] (defScope s_are_marks) := ⟨rfl, rfl, rfl, by decide +kernel, rfl, by decide +kernel, by decide +kernel⟩
abbrev s_need_order : Stmt := top 30
theorem sc_need_order : FnScope ["course", "places", "end", "k", "place"] ["course", "places"] (defScope s_need_order) := ⟨rfl, rfl, rfl, by decide +kernel, rfl, by decide +kernel, by decide +kernel⟩
abbrev s_spans_share : Stmt := top 31
theorem sc_spans_share : FnScope ["place", "other"] ["place", "other"] (defScope s_spans_share) := ⟨rfl, rfl, rfl, by decide +kernel, rfl, by decide +kernel, by decide +kernel⟩
abbrev s_Wall_init : Stmt := inCls (top 32) 0
theorem sc_Wall_init : FnScope ["self", "courses", "k", "course", "mark"] ["self", "courses"] (defScope s_Wall_init) := ⟨rfl, rfl, rfl, by decide +kernel, rfl, by decide +kernel, by decide +kernel⟩
abbrev s_Wall_marks : Stmt := inCls (top 32) 1
theorem sc_Wall_marks : FnScope ["self", "found", "k", "course", "at"] ["self"] (defScope s_Wall_marks) := ⟨rfl, rfl, rfl, by decide +kernel, rfl, by decide +kernel, by decide +kernel⟩
abbrev s_Wall_courses : Stmt := inCls (top 32) 2
theorem sc_Wall_courses : FnScope ["self", "course"] ["self"] (defScope s_Wall_courses) := ⟨rfl, rfl, rfl, by decide +kernel, rfl, by decide +kernel, by decide +kernel⟩
abbrev s_Wall_places_in : Stmt := inCls (top 32) 3
theorem sc_Wall_places_in : FnScope ["self", "course"] ["self", "course"] (defScope s_Wall_places_in) := ⟨rfl, rfl, rfl, by decide +kernel, rfl, by decide +kernel, by decide +kernel⟩
abbrev s_Wall_place_kept : Stmt := inCls (top 32) 4
theorem sc_Wall_place_kept : FnScope ["self", "mark", "places"] ["self", "mark"] (defScope s_Wall_place_kept) := ⟨rfl, rfl, rfl, by decide +kernel, rfl, by decide +kernel, by decide +kernel⟩
abbrev s_Wall_sharing : Stmt := inCls (top 32) 6
theorem sc_Wall_sharing : FnScope ["self", "mark", "course", "place", "k", "other"] ["self", "mark", "course"] (defScope s_Wall_sharing) := ⟨rfl, rfl, rfl, by decide +kernel, rfl, by decide +kernel, by decide +kernel⟩
abbrev s_Wall_beneath : Stmt := inCls (top 32) 7
theorem sc_Wall_beneath : FnScope ["self", "mark"] ["self", "mark"] (defScope s_Wall_beneath) := ⟨rfl, rfl, rfl, by decide +kernel, rfl, by decide +kernel, by decide +kernel⟩
abbrev s_Wall_upon : Stmt := inCls (top 32) 8
theorem sc_Wall_upon : FnScope ["self", "mark"] ["self", "mark"] (defScope s_Wall_upon) := ⟨rfl, rfl, rfl, by decide +kernel, rfl, by decide +kernel, by decide +kernel⟩
abbrev s_Wall_held_up : Stmt := inCls (top 32) 9
theorem sc_Wall_held_up : FnScope ["self", "marks", "mark", "found", "under"] ["self", "marks"] (defScope s_Wall_held_up) := ⟨rfl, rfl, rfl, by decide +kernel, rfl, by decide +kernel, by decide +kernel⟩
abbrev s_bag : Stmt := top 34
theorem sc_bag : FnScope ["_law_script", "_law_cell"] ["_law_script"] (defScope s_bag) := ⟨rfl, rfl, rfl, by decide +kernel, rfl, by decide +kernel, by decide +kernel⟩
abbrev s_take : Stmt := top 35
theorem sc_take : FnScope ["_law_bag_here", "_law_many", "_law_cell", "_law_value", "_law_first", "_law_second"] ["_law_bag_here", "_law_many"] (defScope s_take) := ⟨rfl, rfl, rfl, by decide +kernel, rfl, by decide +kernel, by decide +kernel⟩
abbrev s_alike : Stmt := top 36
theorem sc_alike : FnScope ["_law_found", "_law_due"] ["_law_found", "_law_due"] (defScope s_alike) := ⟨rfl, rfl, rfl, by decide +kernel, rfl, by decide +kernel, by decide +kernel⟩
abbrev s_grains : Stmt := top 37
theorem sc_grains : FnScope ["_law_bag_here", "_law_letters", "_law_words", "_law_drawn", "_law_k", "_law_way", "_law_name", "_law_j"] ["_law_bag_here"] (defScope s_grains) := ⟨rfl, rfl, rfl, by decide +kernel, rfl, by decide +kernel, by decide +kernel⟩
abbrev s_wide : Stmt := top 38
theorem sc_wide : FnScope ["_law_bag_here"] ["_law_bag_here"] (defScope s_wide) := ⟨rfl, rfl, rfl, by decide +kernel, rfl, by decide +kernel, by decide +kernel⟩
abbrev s_place : Stmt := top 39
theorem sc_place : FnScope ["_law_bag_here", "_law_grains_here", "_law_at", "_law_behind", "_law_grain", "_law_lie"] ["_law_bag_here", "_law_grains_here", "_law_at", "_law_behind"] (defScope s_place) := ⟨rfl, rfl, rfl, by decide +kernel, rfl, by decide +kernel, by decide +kernel⟩
abbrev s_row : Stmt := top 40
theorem sc_row : FnScope ["_law_bag_here", "_law_grains_here", "_law_count", "_law_edges_here", "_law_places", "_law_end", "_law_k", "_law_left", "_law_edge", "_law_gap", "_law_at", "_law_far"] ["_law_bag_here", "_law_grains_here", "_law_count", "_law_edges_here"] (defScope s_row) := ⟨rfl, rfl, rfl, by decide +kernel, rfl, by decide +kernel, by decide +kernel⟩
abbrev s_share : Stmt := top 41
theorem sc_share : FnScope ["_law_one", "_law_other"] ["_law_one", "_law_other"] (defScope s_share) := ⟨rfl, rfl, rfl, by decide +kernel, rfl, by decide +kernel, by decide +kernel⟩
abbrev s_edges : Stmt := top 42
theorem sc_edges : FnScope ["_law_places", "_law_found", "_law_place_here"] ["_law_places"] (defScope s_edges) := ⟨rfl, rfl, rfl, by decide +kernel, rfl, by decide +kernel, by decide +kernel⟩
abbrev s_shut : Stmt := top 43
theorem sc_shut : FnScope ["_law_bag_here", "_law_grains_here", "_law_many", "_law_most", "_law_wide_here", "_law_courses", "_law_under", "_law_k", "_law_count", "_law_places", "_law_place_here", "_law_one"] ["_law_bag_here"] (defScope s_shut) := ⟨rfl, rfl, rfl, by decide +kernel, rfl, by decide +kernel, by decide +kernel⟩
abbrev s_copy : Stmt := top 44
theorem sc_copy : FnScope ["_law_courses", "_law_height", "_law_places"] ["_law_courses"] (defScope s_copy) := ⟨rfl, rfl, rfl, by decide +kernel, rfl, by decide +kernel, by decide +kernel⟩
abbrev s_marks : Stmt := top 45
theorem sc_marks : FnScope ["_law_courses", "_law_found", "_law_k", "_law_j"] ["_law_courses"] (defScope s_marks) := ⟨rfl, rfl, rfl, by decide +kernel, rfl, by decide +kernel, by decide +kernel⟩
abbrev s_spans : Stmt := top 46
theorem sc_spans : FnScope ["_law_shut_here", "_law_marks_here", "_law_courses", "_law_found", "_law_c", "_law_p", "_law_place_here"] ["_law_shut_here", "_law_marks_here"] (defScope s_spans) := ⟨rfl, rfl, rfl, by decide +kernel, rfl, by decide +kernel, by decide +kernel⟩
abbrev s_related : Stmt := top 47
theorem sc_related : FnScope ["_law_shut_here", "_law_marks_here", "_law_spans_here", "_law_mark", "_law_under", "_law_above", "_law_other", "_law_share_here"] ["_law_shut_here", "_law_marks_here"] (defScope s_related) := ⟨rfl, rfl, rfl, by decide +kernel, rfl, by decide +kernel, by decide +kernel⟩
abbrev s_least : Stmt := top 48
theorem sc_least : FnScope ["_law_shut_here", "_law_marks_here", "_law_some", "_law_told", "_law_mark", "_law_stands", "_law_other"] ["_law_shut_here", "_law_marks_here", "_law_some", "_law_told"] (defScope s_least) := ⟨rfl, rfl, rfl, by decide +kernel, rfl, by decide +kernel, by decide +kernel⟩
abbrev s_law : Stmt := top 49
theorem sc_law : FnScope ["_law_script", "_law_bag_here", "_law_courses", "_law_shut_here", "_law_marks_here", "_law_k", "_law_rare", "_law_one", "_law_mark", "_law_other", "_law_told", "_law_both"] ["_law_script"] (defScope s_law) := ⟨rfl, rfl, rfl, by decide +kernel, rfl, by decide +kernel, by decide +kernel⟩
local macro_rules | `(tactic| walk_at "v") => `(tactic| first
  | refine ⟨_, rfl, ?_⟩
  | refine ⟨.inl rfl, ?_⟩
  | refine ⟨rfl, ?_⟩
  | refine ⟨cmulR (by decide) (by decide), ?_⟩
  | refine ⟨cmulL (by decide) (by decide), ?_⟩
  | refine ⟨cmulR (by omega) (by omega), ?_⟩
  | refine ⟨cmulL (by omega) (by omega), ?_⟩
  | refine ⟨show (0 : Int) < _ by omega, ?_⟩
  | refine ⟨cdivS (by omega) (by omega), ?_⟩
  | refine ⟨cdivB (by omega) (by omega), ?_⟩
  | refine ⟨show CPow _ _ from ⟨by decide, by decide, by decide⟩, ?_⟩
  | refine ⟨_, _, rfl, (show IsBag _ by assumption), (show (0 : Int) < _ by omega), (show _ < (18446744073709551616 : Int) by omega), fun _ _ _ _ _ => ?_⟩
  | walk_at "m")
local macro_rules | `(tactic| walk_at "vs") => `(tactic| repeat walk_at "v")
local macro_rules | `(tactic| walk_at "vn") => `(tactic| repeat (walk_at "v"; walk_at "nf"))
local macro_rules | `(tactic| walk_at "m") => `(tactic| refine ⟨_, fun _ => (by (walk_at "vs"); first | exact rfl | exact ⟨rfl, rfl⟩), ?_⟩)
local macro_rules | `(tactic| walk_at "w") => `(tactic| conv => whnf)
local macro_rules | `(tactic| walk_at "so") => `(tactic| first | omega | (simp; done) | (simp; omega) | (simp at *; omega))
local macro_rules | `(tactic| walk_at "nf") => `(tactic| try dsimp only [env0, putE_nil, putE_cons, putO_nil, putO_cons, nf_set0, nf_setS, wipeE, rstE, nf_map, nf_map0, nf_app, nf_app0, List.length_cons, List.length_nil, Nat.reduceAdd, Nat.reduceSub, List.replicate_succ, List.replicate_zero])
local macro_rules | `(tactic| walk_at "no") => `(tactic| refine ⟨.inl rfl, fun z => absurd z (by simp [eqD, T.d]), fun _ => ?_⟩)
local macro_rules | `(tactic| walk_at "yes") => `(tactic| refine ⟨.inl rfl, fun _ => ?_, fun z => absurd z (by simp [eqD, T.d])⟩)

def M6 (i : Int) : Prop := 1 ≤ i ∧ i ≤ 1000000
abbrev abcL : List Nat := ("abcdefghijklmnopqrstuvwxyz" : Str).cps.toList
def gLet (g : Str) : Prop := 1 ≤ g.length ∧ g.length ≤ 8 ∧ ∀ c, c ∈ g.cps.toList → c ∈ abcL
def wholeI : SemF := fun args Q E => ∃ i : Int, args = [.fz (.int i)] ∧ Q (.fz (.bl true)) []
def betweenI : SemF := fun args Q E => ∃ i a b : Int, args = [.fz (.int i), .fz (.int a), .fz (.int b)] ∧ a ≤ i ∧ i ≤ b ∧ Q (.fz (.bl true)) []
def measureI : SemF := fun args Q E => ∃ i : Int, args = [.fz (.int i)] ∧ M6 i ∧ Q (.fz (.bl true)) []
def spotI : SemF := fun args Q E => ∃ i : Int, args = [.fz (.int i)] ∧ 0 ≤ i ∧ i ≤ 1000000 ∧ Q (.fz (.bl true)) []
def grainsS : SemF := fun args Q E => ∃ t, args = [t] ∧ IsBag t ∧ ∀ (gs : List Str) t', (∀ g, g ∈ gs → gLet g) → 1 ≤ gs.length → gs.length ≤ 3 → IsBag t' → Q (.fz (.nd .lst (gs.map .str))) [t']

def sml (k n : Nat) (d : D) : Prop := d.pl n = true ∧ shrt d = true ∧ szD d ≤ k
theorem sml_int {n : Nat} {i : Int} (h : -(10 ^ 30) < i ∧ i < 10 ^ 30) : sml 140 n (.int i) := ⟨by cases n <;> rfl, by simp only [shrt, decide_eq_true_eq]; omega, Nat.le_refl _⟩
theorem sml_non {n : Nat} : sml 0 n .non := ⟨by cases n <;> rfl, rfl, Nat.le_refl _⟩
theorem sml_bl {n : Nat} {b : Bool} : sml 0 n (.bl b) := ⟨by cases n <;> rfl, rfl, Nat.le_refl _⟩
theorem abc_lt {c : Nat} (h : c ∈ abcL) : c < 128 := by
  have : (abcL.all fun c => decide (c < 128)) = true := by decide +kernel
  simpa using List.all_eq_true.mp this c h
theorem sml_strL {n m : Nat} {g : Str} (h : g.cps.size ≤ m) (h2 : ∀ c, c ∈ g.cps.toList → c < 128) : sml m n (.str g) := by
  refine ⟨?_, ?_, h⟩
  · cases n <;> (simp only [D.pl, PyData.strOk]; rw [← Array.all_toList, List.all_eq_true]; exact fun c hc => by have := h2 c hc; simp; omega)
  · simp only [shrt, List.all_eq_true, decide_eq_true_eq]
    exact fun c hc => by have := h2 c hc; omega
theorem sml_let {n : Nat} {g : Str} (h : gLet g) : sml 8 n (.str g) := sml_strL h.2.1 fun c hc => abc_lt (h.2.2 c hc)
theorem sml_mono {k m n : Nat} {d : D} (h : sml k n d) (l : k ≤ m) : sml m n d := ⟨h.1, h.2.1, Nat.le_trans h.2.2 l⟩
theorem sml_lstD {k n m : Nat} {ds : List D} (h : ∀ d, d ∈ ds → sml k n d) (hl : ds.length ≤ m) : sml (m * (k + 1)) (n + 1) (.nd .lst ds) :=
  ⟨pl_lst fun d hd => (h d hd).1, shrts_all fun d hd => (h d hd).2.1, Nat.le_trans (szDs_le fun d hd => (h d hd).2.2) (Nat.mul_le_mul hl (Nat.le_refl _))⟩
theorem sml_tupD {k n m : Nat} {ds : List D} (h : ∀ d, d ∈ ds → sml k n d) (hl : ds.length ≤ m) : sml (m * (k + 1)) (n + 1) (.nd .tup ds) :=
  ⟨pl_tup fun d hd => (h d hd).1, shrts_all fun d hd => (h d hd).2.1, Nat.le_trans (szDs_le fun d hd => (h d hd).2.2) (Nat.mul_le_mul hl (Nat.le_refl _))⟩
theorem sml_lst {α : Type} {k n m : Nat} {l : List α} {f : α → D} (h : ∀ a, a ∈ l → sml k n (f a)) (hl : l.length ≤ m) : sml (m * (k + 1)) (n + 1) (.nd .lst (l.map f)) := sml_lstD (fun d hd => by
  obtain ⟨a, ha, rfl⟩ := List.mem_map.mp hd; exact h a ha) (by rw [List.length_map]; exact hl)
inductive smls (n : Nat) : Nat → List D → Prop
  | nil : smls n 0 []
  | cons {k m : Nat} {d : D} {ds : List D} : sml k n d → smls n m ds → smls n (k + 1 + m) (d :: ds)
theorem smls.and {n k : Nat} {ds : List D} (h : smls n k ds) : Dspl n ds = true ∧ shrts ds = true ∧ szDs ds ≤ k := by
  induction h with
  | nil => exact ⟨rfl, rfl, Nat.le_refl _⟩
  | cons a _ ih => exact ⟨by simp [Dspl, a.1, ih.1], by simp [shrts, a.2.1, ih.2.1], by have := a.2.2; have := ih.2.2; simp only [szDs]; omega⟩
theorem sml_tup {k n : Nat} {ds : List D} (h : smls n k ds) : sml k (n + 1) (.nd .tup ds) := ⟨by rw [D.pl]; exact h.and.1, h.and.2.1, h.and.2.2⟩
theorem sml_ls {k n : Nat} {ds : List D} (h : smls n k ds) : sml k (n + 1) (.nd .lst ds) := ⟨by rw [D.pl]; exact h.and.1, h.and.2.1, h.and.2.2⟩
theorem alike_of {k : Nat} {d : D} {Q : T → List T → Prop} {E : Rz → List T → Prop} (h : sml k 64 d) (hk : k ≤ 262144) (q : Q (.fz (.bl true)) []) : alikeS [.fz d, .fz d] Q E := ⟨d, rfl, h.1, shw_of h.2.1 (Nat.le_trans h.2.2 hk), q⟩
theorem szN {n : Nat} (h : n ≤ 16777216) : n ≤ sizeLine := by rw [sizeLine_eq]; exact h
theorem szI {i : Int} (h : i ≤ 16777216) : i ≤ ((sizeLine : Nat) : Int) := by rw [sizeLine_eq]; exact h
theorem szL {n : Nat} (h : n < 16777216) : n < sizeLine := by rw [sizeLine_eq]; exact h
theorem sml_al {k : Nat} {d : D} (h : sml k 64 d) (hk : k ≤ 262144) : d.pl 64 = true ∧ shwD d := ⟨h.1, shw_of h.2.1 (Nat.le_trans h.2.2 hk)⟩

structure Pl where (x w d : Int) (g l : Str)
abbrev plD (p : Pl) : D := .nd .tup [.int p.x, .int p.w, .int p.d, .str p.g, .str p.l]
structure Co where (h : Int) (ps : List Pl)
abbrev psD (ps : List Pl) : D := .nd .lst (ps.map plD)
abbrev coD (c : Co) : D := .nd .tup [.int c.h, psD c.ps]
abbrev cosD (C : List Co) : D := .nd .lst (C.map coD)
abbrev wallK : List Str := ["kept_courses"]
abbrev walD (ca : Str → Addr) (C : List Co) : D := .nd (.ins (ca "Wall") wallK) [cosD C]
def gEmp (g : Str) : Prop := gLet g ∨ g = ""
def Lie (l : Str) : Prop := l = "along" ∨ l = "across" ∨ l = "either"
def plOk (p : Pl) : Prop := 0 ≤ p.x ∧ M6 p.w ∧ M6 p.d ∧ gEmp p.g ∧ Lie p.l ∧ p.x + p.w ≤ 1000000
def inRow : Int → List Pl → Prop
  | _, [] => True
  | e, p :: r => e ≤ p.x ∧ inRow (p.x + p.w) r
def coOk (c : Co) : Prop := M6 c.h ∧ (∀ p, p ∈ c.ps → plOk p) ∧ inRow 0 c.ps ∧ c.ps.length ≤ 24
def shB (p q : Pl) : Bool := decide (p.x < q.x + q.w) && decide (q.x < p.x + p.w)
abbrev Mk := Int × Int
abbrev mkD (m : Mk) : D := .nd .tup [.int m.1, .int m.2]
abbrev mksD (ms : List Mk) : D := .nd .lst (ms.map mkD)
def rowMk (k : Int) (n : Nat) : List Mk := (List.range n).map fun j => (k, ((j : Nat) : Int) + 1)
def mksF : List Co → Int → List Mk
  | [], _ => []
  | c :: C, k => rowMk k c.ps.length ++ mksF C (k + 1)
def psIn (C : List Co) (k : Int) : List Pl := if 1 ≤ k then match C[(k - 1).toNat]? with | some c => c.ps | none => [] else []
def shF (p : Pl) (k : Int) (ps : List Pl) : List Mk := ((List.range ps.length).filter fun j => match ps[j]? with | some q => shB p q | none => false).map fun j => (k, ((j : Nat) : Int) + 1)
def plAt (C : List Co) (m : Mk) : Option Pl := (psIn C m.1)[(m.2 - 1).toNat]?
def bsF (C : List Co) (m : Mk) (k : Int) : List Mk := match plAt C m with | some p => shF p k (psIn C k) | none => []
def totF (C : List Co) : Nat := (C.map (·.ps.length)).sum
def wallOk (C : List Co) : Prop := (1 ≤ C.length ∧ C.length ≤ 6) ∧ (∀ c, c ∈ C → coOk c) ∧ totF C ≤ 24 ∧ ∀ m, m ∈ mksF C 1 → 1 < m.1 → bsF C m (m.1 - 1) ≠ []
def hlF (C : List Co) (ms acc : List Mk) (m : Mk) : List Mk := if (bsF C m (m.1 - 1)).any (fun u => decide (u ∈ ms) || decide (u ∈ acc)) then acc ++ [m] else acc
def heldF (C : List Co) (ms : List Mk) : List Mk := (mksF C 1).foldl (hlF C ms) []
def needD (C : List Co) (m : Mk) (p : Pl) : D := match C[(m.1 - 1).toNat]? with | some c => .nd .tup [.int p.w, .int p.d, .int c.h, .str p.g, .str p.l] | none => .non
theorem mem_rowMk {k : Int} {n : Nat} {m : Mk} : m ∈ rowMk k n ↔ ∃ j, j < n ∧ m = (k, ((j : Nat) : Int) + 1) := by
  unfold rowMk
  rw [List.mem_map]
  exact ⟨fun ⟨j, hj, e⟩ => ⟨j, List.mem_range.mp hj, e.symm⟩, fun ⟨j, hj, e⟩ => ⟨j, List.mem_range.mpr hj, e.symm⟩⟩
theorem mem_mks : ∀ {C : List Co} {k : Int} {m : Mk}, m ∈ mksF C k ↔ ∃ (i j : Nat) (c : Co), C[i]? = some c ∧ j < c.ps.length ∧ m = (k + i, ((j : Nat) : Int) + 1)
  | [], k, m => by simp [mksF]
  | c :: C, k, m => by
    rw [mksF, List.mem_append, mem_rowMk, mem_mks]
    constructor
    · rintro (⟨j, hj, rfl⟩ | ⟨i, j, c', h1, h2, rfl⟩)
      · exact ⟨0, j, c, rfl, hj, by simp⟩
      · exact ⟨i + 1, j, c', by simpa using h1, h2, by push_cast; rw [show k + ((i : Int) + 1) = k + 1 + i by omega]⟩
    · rintro ⟨i, j, c', h1, h2, rfl⟩
      cases i with
      | zero => simp at h1; subst h1; exact .inl ⟨j, h2, by simp⟩
      | succ i => exact .inr ⟨i, j, c', by simpa using h1, h2, by push_cast; rw [show k + ((i : Int) + 1) = k + 1 + i by omega]⟩
theorem mks_at {C : List Co} {m : Mk} (h : m ∈ mksF C 1) : ∃ (i j : Nat) (c : Co) (p : Pl), C[i]? = some c ∧ c.ps[j]? = some p ∧ m = ((i : Int) + 1, (j : Int) + 1) ∧ psIn C m.1 = c.ps ∧ plAt C m = some p := by
  obtain ⟨i, j, c, h1, h2, rfl⟩ := mem_mks.mp h
  have e1 : psIn C (1 + (i : Int), (j : Int) + 1).1 = c.ps := by
    unfold psIn
    simp only
    rw [if_pos (by omega), show (1 + (i : Int) - 1).toNat = i by omega, h1]
  refine ⟨i, j, c, c.ps[j], h1, List.getElem?_eq_getElem h2, by rw [Int.add_comm], e1, ?_⟩
  unfold plAt
  rw [e1]
  simp only
  rw [show ((j : Int) + 1 - 1).toNat = j by omega, List.getElem?_eq_getElem h2]
def markI : SemF := fun args Q E => ∃ m : Mk, args = [.fz (mkD m)] ∧ (1 ≤ m.1 ∧ m.1 ≤ 24) ∧ (1 ≤ m.2 ∧ m.2 ≤ 24) ∧ Q (.fz (.bl true)) []
def areI : SemF := fun args Q E => ∃ (xs : List Int) (a b : Int), args = [.fz (.nd .tup (xs.map .int)), .fz (.int a), .fz (.int b)] ∧ (∀ x, x ∈ xs → a ≤ x ∧ x ≤ b) ∧ Q (.fz (.bl true)) []
def lieI : SemF := fun args Q E => ∃ l : Str, args = [.fz (.str l)] ∧ Lie l ∧ Q (.fz (.bl true)) []
def grainE : SemF := fun args Q E => ∃ x : Str, args = [.fz (.str x)] ∧ gEmp x ∧ Q (.fz (.bl (decide (x ≠ "")))) []
def placeI : SemF := fun args Q E => ∃ p : Pl, args = [.fz (plD p)] ∧ plOk p ∧ Q (.fz (.bl true)) []
def courseI : SemF := fun args Q E => ∃ c : Co, args = [.fz (coD c)] ∧ coOk c ∧ Q (.fz (.bl true)) []
def coursesI : SemF := fun args Q E => ∃ C : List Co, args = [.fz (cosD C)] ∧ wallOk C ∧ Q (.fz (.bl true)) []
def marksI : SemF := fun args Q E => ∃ ms : List Mk, args = [.fz (mksD ms)] ∧ ms.length ≤ 24 ∧ (∀ m, m ∈ ms → (1 ≤ m.1 ∧ m.1 ≤ 24) ∧ (1 ≤ m.2 ∧ m.2 ≤ 24)) ∧ Q (.fz (.bl true)) []
def orderI : SemF := fun args Q E => ∃ (k : Int) (ps : List Pl), args = [.fz (.int k), .fz (psD ps)] ∧ inRow 0 ps ∧ (∀ p, p ∈ ps → p.x + p.w ≤ 1000000) ∧ Q (.fz .non) []
def shareS : SemF := fun args Q E => ∃ p q : Pl, args = [.fz (plD p), .fz (plD q)] ∧ Q (.fz (.bl (shB p q))) []
def initW (ca : Str → Addr) : SemF := fun args Q E => ∃ C : List Co, args = [.ow (.ins (ca "Wall") []) [], .fz (cosD C)] ∧ wallOk C ∧ Q (.fz .non) [.fz (walD ca C)]
def marksW (ca : Str → Addr) : SemF := fun args Q E => ∃ C : List Co, args = [.fz (walD ca C)] ∧ totF C ≤ 100000 ∧ Q (.fz (mksD (mksF C 1))) []
def coursesW (ca : Str → Addr) : SemF := fun args Q E => ∃ C : List Co, args = [.fz (walD ca C)] ∧ Q (.fz (cosD C)) []
def placesW (ca : Str → Addr) : SemF := fun args Q E => ∃ (C : List Co) (k : Int), args = [.fz (walD ca C), .fz (.int k)] ∧ Q (.fz (psD (psIn C k))) []
def keptW (ca : Str → Addr) : SemF := fun args Q E => ∃ (C : List Co) (m : Mk) (p : Pl), args = [.fz (walD ca C), .fz (mkD m)] ∧ wallOk C ∧ m ∈ mksF C 1 ∧ plAt C m = some p ∧ Q (.fz (plD p)) []
def needW (ca : Str → Addr) : SemF := fun args Q E => ∃ (C : List Co) (m : Mk) (p : Pl), args = [.fz (walD ca C), .fz (mkD m)] ∧ wallOk C ∧ m ∈ mksF C 1 ∧ plAt C m = some p ∧ Q (.fz (needD C m p)) []
def sharingW (ca : Str → Addr) : SemF := fun args Q E => ∃ (C : List Co) (m : Mk) (k : Int), args = [.fz (walD ca C), .fz (mkD m), .fz (.int k)] ∧ wallOk C ∧ m ∈ mksF C 1 ∧ Q (.fz (mksD (bsF C m k))) []
def beneathW (ca : Str → Addr) : SemF := fun args Q E => ∃ (C : List Co) (m : Mk), args = [.fz (walD ca C), .fz (mkD m)] ∧ wallOk C ∧ m ∈ mksF C 1 ∧ Q (.fz (mksD (bsF C m (m.1 - 1)))) []
def uponW (ca : Str → Addr) : SemF := fun args Q E => ∃ (C : List Co) (m : Mk), args = [.fz (walD ca C), .fz (mkD m)] ∧ wallOk C ∧ m ∈ mksF C 1 ∧ Q (.fz (mksD (bsF C m (m.1 + 1)))) []
def heldW (ca : Str → Addr) : SemF := fun args Q E => ∃ (C : List Co) (ms : List Mk), args = [.fz (walD ca C), .fz (mksD ms)] ∧ wallOk C ∧ ms.length ≤ 24 ∧ (∀ m, m ∈ ms → m ∈ mksF C 1) ∧ Q (.fz (mksD (heldF C ms))) []
theorem tot_cast : ∀ {C : List Co}, (C.map fun c => ((c.ps.length : Nat) : Int)).sum = (((C.map fun c => c.ps.length).sum : Nat) : Int)
  | [] => rfl
  | c :: C => by rw [List.map_cons, List.sum_cons, tot_cast, List.map_cons, List.sum_cons]; omega
def atP (ps : List Pl) (k : Nat) : D := match ps[k]? with | some p => plD p | none => .non
theorem enum_ps {ps : List Pl} : enumD (ps.map plD) = (List.range ps.length).map fun k => D.nd .tup [.int (k : Nat), atP ps k] := by
  unfold enumD
  apply List.ext_getElem
  · simp
  · intro i h1 h2
    have hi : i < ps.length := by simpa using h2
    simp [atP, hi]
theorem mks_snoc : ∀ {C : List Co} {k : Int} {j : Nat} {c : Co}, C[j]? = some c → mksF (C.take (j + 1)) k = mksF (C.take j) k ++ rowMk (k + j) c.ps.length
  | [], _, _, _, h => by simp at h
  | d :: C, k, 0, c, h => by simp at h; subst h; simp [mksF]
  | d :: C, k, j + 1, c, h => by
    have ih := mks_snoc (C := C) (k := k + 1) (j := j) (c := c) (by simpa using h)
    rw [List.take_succ_cons, List.take_succ_cons, mksF, mksF, ih, List.append_assoc, show k + 1 + (j : Int) = k + ((j + 1 : Nat) : Int) by omega]
theorem mks_len : ∀ {C : List Co} {k : Int}, (mksF C k).length = totF C
  | [], _ => rfl
  | c :: C, k => by rw [mksF, List.length_append, mks_len]; unfold rowMk totF; simp
theorem tot_le {C : List Co} {j : Nat} {c : Co} (h : C[j]? = some c) : totF (C.take j) + c.ps.length ≤ totF C := by
  have e : totF C = totF (C.take (j + 1)) + totF (C.drop (j + 1)) := by
    unfold totF
    rw [← List.sum_append, ← List.map_append, List.take_append_drop]
  have e2 : totF (C.take (j + 1)) = totF (C.take j) + c.ps.length := by
    unfold totF
    rw [List.take_succ, h, Option.toList_some, List.map_append, List.sum_append]; simp
  omega
theorem psIn_at {C : List Co} {i : Nat} {c : Co} {k : Int} (h : C[i]? = some c) (hk : k = (i : Int) + 1) : psIn C k = c.ps := by
  unfold psIn
  rw [if_pos (by omega), show (k - 1).toNat = i by omega, h]
theorem psIn_no {C : List Co} {k : Int} (h : ¬ (1 ≤ k ∧ k ≤ (C.length : Int))) : psIn C k = [] := by
  unfold psIn
  split
  · rw [List.getElem?_eq_none (by omega)]
  · rfl
theorem wall_mark {C : List Co} (h : wallOk C) {m : Mk} (hm : m ∈ mksF C 1) : (1 ≤ m.1 ∧ m.1 ≤ 6) ∧ (1 ≤ m.2 ∧ m.2 ≤ 24) := by
  obtain ⟨i, j, c, hi, hj, rfl⟩ := mem_mks.mp hm
  have h1 := (List.getElem?_eq_some_iff.mp hi).1
  have h2 := h.1.2
  have h3 := (h.2.1 c (List.mem_of_getElem? hi)).2.2.2
  exact ⟨⟨by show 1 ≤ 1 + (i : Int); omega, by show 1 + (i : Int) ≤ 6; omega⟩, by show 1 ≤ (j : Int) + 1; omega, by show (j : Int) + 1 ≤ 24; omega⟩
theorem pl_mk {n : Nat} {m : Mk} : (mkD m).pl (n + 1) = true := pl_tup fun d hd => by
  simp only [List.mem_cons, List.not_mem_nil, or_false] at hd
  rcases hd with rfl | rfl <;> cases n <;> rfl
theorem pl_mks {n : Nat} {ms : List Mk} : (mksD ms).pl (n + 2) = true := pl_lst fun d hd => by
  obtain ⟨m, _, rfl⟩ := List.mem_map.mp hd
  exact pl_mk

abbrev strsD (gs : List Str) : D := .nd .lst (gs.map .str)
abbrev intsD (xs : List Int) : D := .nd .lst (xs.map .int)
def edgF (ps : List Pl) : List Int := ps.foldl (fun a p => a ++ [p.x, p.x + p.w]) [1, 4, 5]
def wideS : SemF := fun args Q E => ∃ t, args = [t] ∧ IsBag t ∧ ∀ (v : Int) t', M6 v → IsBag t' → Q (.fz (.int v)) [t']
def lplaceS : SemF := fun args Q E => ∃ (t : T) (gs : List Str) (a b : Int), args = [t, .fz (strsD gs), .fz (.int a), .fz (.int b)] ∧ IsBag t ∧ (∀ g, g ∈ gs → gLet g) ∧ gs.length ≤ 3 ∧ 0 ≤ a ∧ a < b ∧ b ≤ 1000000 ∧ ∀ (p : Pl) t', plOk p → p.x = a → p.x + p.w = b → IsBag t' → Q (.fz (plD p)) [t']
def lrowS : SemF := fun args Q E => ∃ (t : T) (gs : List Str) (n : Int) (es : List Int), args = [t, .fz (strsD gs), .fz (.int n), .fz (intsD es)] ∧ IsBag t ∧ (∀ g, g ∈ gs → gLet g) ∧ gs.length ≤ 3 ∧ 0 ≤ n ∧ n ≤ 24 ∧ (1 ≤ es.length ∧ es.length ≤ 1000) ∧ ∀ (ps : List Pl) t', (∀ p, p ∈ ps → plOk p) → inRow 0 ps → (ps.length : Int) ≤ n → IsBag t' → Q (.fz (psD ps)) [t']
def lshareS : SemF := fun args Q E => ∃ p q : Pl, args = [.fz (plD p), .fz (plD q)] ∧ 0 < p.w ∧ 0 < q.w ∧ Q (.fz (.bl (shB p q))) []
def edgesS : SemF := fun args Q E => ∃ ps : List Pl, args = [.fz (psD ps)] ∧ ps.length ≤ 24 ∧ Q (.fz (intsD (edgF ps))) []
def shutS : SemF := fun args Q E => ∃ t, args = [t] ∧ IsBag t ∧ ∀ (C : List Co) t', wallOk C → IsBag t' → Q (.fz (cosD C)) [t']
def copyW : SemF := fun args Q E => ∃ C : List Co, args = [.fz (cosD C)] ∧ Q (.fz (cosD C)) []
def lmarksS : SemF := fun args Q E => ∃ C : List Co, args = [.fz (cosD C)] ∧ totF C ≤ 100000 ∧ C.length ≤ 100000 ∧ Q (.fz (mksD (mksF C 1))) []
def lneedS : SemF := fun args Q E => ∃ (C : List Co) (m : Mk) (p : Pl), args = [.fz (cosD C), .fz (mkD m)] ∧ m ∈ mksF C 1 ∧ plAt C m = some p ∧ Q (.fz (needD C m p)) []
def besideS : SemF := fun args Q E => ∃ (C : List Co) (m : Mk) (s : Int), args = [.fz (cosD C), .fz (mkD m), .fz (.int s)] ∧ wallOk C ∧ m ∈ mksF C 1 ∧ (s = 1 ∨ s = -1) ∧ Q (.fz (mksD (bsF C m (m.1 + s)))) []
def lheldS : SemF := fun args Q E => ∃ (C : List Co) (ms : List Mk), args = [.fz (cosD C), .fz (mksD ms)] ∧ wallOk C ∧ ms.length ≤ 24 ∧ (∀ m, m ∈ ms → m ∈ mksF C 1) ∧ Q (.fz (mksD (heldF C ms))) []
def rowEnd : Int → List Pl → Int
  | e, [] => e
  | _, p :: r => rowEnd (p.x + p.w) r
theorem inRow_snoc : ∀ {ps : List Pl} {e : Int} {p : Pl}, inRow e ps → rowEnd e ps ≤ p.x → inRow e (ps ++ [p])
  | [], _, _, _, h => ⟨h, trivial⟩
  | q :: ps, e, p, h, h2 => ⟨h.1, inRow_snoc (ps := ps) h.2 h2⟩
theorem rowEnd_snoc : ∀ {ps : List Pl} {e : Int} {p : Pl}, rowEnd e (ps ++ [p]) = p.x + p.w
  | [], _, _ => rfl
  | q :: ps, _, p => rowEnd_snoc (ps := ps)
theorem inRow_le : ∀ {ps : List Pl} {e d : Int}, d ≤ e → inRow e ps → inRow d ps
  | [], _, _, _, _ => trivial
  | p :: ps, e, d, h, r => ⟨by have := r.1; omega, r.2⟩
theorem inRow_filter {f : Pl → Bool} : ∀ {ps : List Pl} {e : Int}, (∀ p, p ∈ ps → 0 ≤ p.w) → inRow e ps → inRow e (ps.filter f)
  | [], _, _, _ => trivial
  | p :: ps, e, hw, h => by
    have ih := inRow_filter (f := f) (ps := ps) (fun q hq => hw q (List.mem_cons_of_mem _ hq)) h.2
    have := hw p (by simp)
    have := h.1
    rw [List.filter_cons]
    split
    · exact ⟨h.1, ih⟩
    · exact inRow_le (by omega) ih
theorem edgF_snoc {ps : List Pl} {j : Nat} {p : Pl} (h : ps[j]? = some p) : edgF (ps.take (j + 1)) = edgF (ps.take j) ++ [p.x, p.x + p.w] := by
  unfold edgF
  rw [List.take_succ, h, Option.toList_some, List.foldl_append]; rfl
theorem edgF_len : ∀ {ps : List Pl}, (edgF ps).length = 3 + 2 * ps.length := by
  have k : ∀ (ps : List Pl) (a : List Int), (ps.foldl (fun a p => a ++ [p.x, p.x + p.w]) a).length = a.length + 2 * ps.length := fun ps => by
    induction ps with
    | nil => simp
    | cons p ps ih => intro a; rw [List.foldl_cons, ih]; simp; omega
  intro ps
  unfold edgF
  rw [k]; rfl
theorem psIn_app {C : List Co} {c : Co} {k : Int} (h : k ≤ (C.length : Int)) : psIn (C ++ [c]) k = psIn C k := by
  unfold psIn
  split
  · rw [List.getElem?_append_left (by omega)]
  · rfl
theorem shF_ne {p : Pl} {k : Int} {ps : List Pl} (h : ps.any (shB p) = true) : shF p k ps ≠ [] := by
  obtain ⟨q, hq, hs⟩ := List.any_eq_true.mp h
  obtain ⟨i, hi⟩ := List.getElem?_of_mem hq
  have hl := (List.getElem?_eq_some_iff.mp hi).1
  intro e
  have : (k, ((i : Nat) : Int) + 1) ∈ shF p k ps := by
    unfold shF
    exact List.mem_map.mpr ⟨i, List.mem_filter.mpr ⟨List.mem_range.mpr hl, by rw [hi]; exact hs⟩, rfl⟩
  rw [e] at this
  simp at this
theorem borne_snoc {C : List Co} {c : Co} (h : ∀ m, m ∈ mksF C 1 → 1 < m.1 → bsF C m (m.1 - 1) ≠ []) (hc : 1 ≤ C.length → ∀ p, p ∈ c.ps → (psIn C (C.length : Nat)).any (shB p) = true) : ∀ m, m ∈ mksF (C ++ [c]) 1 → 1 < m.1 → bsF (C ++ [c]) m (m.1 - 1) ≠ [] := by
  intro m hm h1
  obtain ⟨i, j, d, hi, hj, rfl⟩ := mem_mks.mp hm
  have hil := (List.getElem?_eq_some_iff.mp hi).1
  rw [List.length_append, List.length_singleton] at hil
  have h1 : 1 < 1 + (i : Int) := h1
  rcases Nat.lt_or_ge i C.length with q | q
  · have hi2 : C[i]? = some d := by rw [List.getElem?_append_left q] at hi; exact hi
    have e1 : bsF (C ++ [c]) (1 + (i : Int), (j : Int) + 1) (1 + (i : Int) - 1) = bsF C (1 + (i : Int), (j : Int) + 1) (1 + (i : Int) - 1) := by
      unfold bsF plAt
      rw [psIn_app (by simp only; omega), psIn_app (by omega)]
    show bsF (C ++ [c]) (1 + (i : Int), (j : Int) + 1) (1 + (i : Int) - 1) ≠ []
    rw [e1]
    exact h _ (mem_mks.mpr ⟨i, j, d, hi2, hj, rfl⟩) h1
  · have : i = C.length := by omega
    subst this
    have hd : d = c := by rw [List.getElem?_append_right (Nat.le_refl _)] at hi; simpa using hi.symm
    subst hd
    show bsF (C ++ [d]) (1 + ((C.length : Nat) : Int), (j : Int) + 1) (1 + ((C.length : Nat) : Int) - 1) ≠ []
    have e1 : psIn (C ++ [d]) (1 + ((C.length : Nat) : Int)) = d.ps := psIn_at (i := C.length) (by rw [List.getElem?_append_right (Nat.le_refl _)]; simp) (by omega)
    unfold bsF plAt
    simp only
    rw [e1, show ((j : Int) + 1 - 1).toNat = j by omega, List.getElem?_eq_getElem hj, psIn_app (by omega), show 1 + ((C.length : Nat) : Int) - 1 = (C.length : Nat) by omega]
    exact shF_ne (hc (by omega) _ (List.getElem_mem hj))
theorem tot_snoc {C : List Co} {c : Co} : totF (C ++ [c]) = totF C + c.ps.length := by unfold totF; rw [List.map_append, List.sum_append]; simp
theorem sml_grE {n : Nat} {g : Str} (h : gEmp g) : sml 8 n (.str g) := by
  rcases h with h | rfl
  · exact sml_let h
  · exact sml_strL (by decide) (by decide)
theorem sml_lie {n : Nat} {l : Str} (h : Lie l) : sml 6 n (.str l) := by rcases h with rfl | rfl | rfl <;> exact sml_strL (by decide) (by decide +kernel)
theorem sml_pl {n : Nat} {p : Pl} (h : plOk p) : sml 439 (n + 1) (plD p) := by
  obtain ⟨h1, h2, h3, h4, h5, h6⟩ := h
  unfold M6 at h2 h3
  exact sml_tup (.cons (sml_int (by omega)) (.cons (sml_int (by omega)) (.cons (sml_int (by omega)) (.cons (sml_grE h4) (.cons (sml_lie h5) .nil)))))
theorem sml_co {n : Nat} {c : Co} (h : coOk c) : sml 10702 (n + 3) (coD c) := by
  obtain ⟨h1, h2, h3, h4⟩ := h
  unfold M6 at h1
  exact sml_tup (.cons (sml_int (by omega)) (.cons (sml_lst (fun p hp => sml_pl (h2 p hp)) h4) .nil))
theorem sml_cos {n : Nat} {C : List Co} (h : wallOk C) : sml 64218 (n + 4) (cosD C) := sml_lst (fun c hc => sml_co (h.2.1 c hc)) h.1.2
theorem sml_mk {n : Nat} {m : Mk} (h : (1 ≤ m.1 ∧ m.1 ≤ 24) ∧ (1 ≤ m.2 ∧ m.2 ≤ 24)) : sml 282 (n + 1) (mkD m) := sml_tup (.cons (sml_int (by omega)) (.cons (sml_int (by omega)) .nil))
theorem wall_mk24 {C : List Co} (h : wallOk C) {m : Mk} (hm : m ∈ mksF C 1) : (1 ≤ m.1 ∧ m.1 ≤ 24) ∧ (1 ≤ m.2 ∧ m.2 ≤ 24) := by have := wall_mark h hm; omega
theorem sml_mks {n : Nat} {C : List Co} {ms : List Mk} (h : wallOk C) (hm : ∀ m, m ∈ ms → m ∈ mksF C 1) (hl : ms.length ≤ 24) : sml 6792 (n + 2) (mksD ms) := sml_lst (fun m hx => sml_mk (wall_mk24 h (hm m hx))) hl
def askedS (ca : Str → Addr) : SemF := fun args Q E => ∃ (C : List Co) (m : Mk) (s : Int), args = [.fz (walD ca C), .fz (mkD m), .fz (.int s)] ∧ wallOk C ∧ m ∈ mksF C 1 ∧ (s = 1 ∨ s = -1) ∧ Q (.ow .lst ((bsF C m (m.1 + s)).map mkD)) []
def sharingO (ca : Str → Addr) : SemF := fun args Q E => ∃ (C : List Co) (m : Mk) (k : Int), args = [.fz (walD ca C), .fz (mkD m), .fz (.int k)] ∧ wallOk C ∧ m ∈ mksF C 1 ∧ Q (.ow .lst ((bsF C m k).map mkD)) []
def beneathO (ca : Str → Addr) : SemF := fun args Q E => ∃ (C : List Co) (m : Mk), args = [.fz (walD ca C), .fz (mkD m)] ∧ wallOk C ∧ m ∈ mksF C 1 ∧ Q (.ow .lst ((bsF C m (m.1 - 1)).map mkD)) []
def uponO (ca : Str → Addr) : SemF := fun args Q E => ∃ (C : List Co) (m : Mk), args = [.fz (walD ca C), .fz (mkD m)] ∧ wallOk C ∧ m ∈ mksF C 1 ∧ Q (.ow .lst ((bsF C m (m.1 + 1)).map mkD)) []
theorem psIn_mem {C : List Co} {k : Int} {p : Pl} (h : p ∈ psIn C k) : ∃ i c, C[i]? = some c ∧ k = ((i : Nat) : Int) + 1 ∧ psIn C k = c.ps := by
  unfold psIn at h ⊢
  split at h
  · rename_i hk
    rw [if_pos hk]
    split at h
    · rename_i c hc
      exact ⟨_, c, hc, by omega, rfl⟩
    · simp at h
  · simp at h
theorem bs_sub {C : List Co} {m : Mk} {k : Int} {u : Mk} (h : u ∈ bsF C m k) : u ∈ mksF C 1 := by
  unfold bsF at h
  split at h
  · unfold shF at h
    obtain ⟨j, hj, rfl⟩ := List.mem_map.mp h
    have hl := List.mem_range.mp (List.mem_filter.mp hj).1
    obtain ⟨i, c, hc, hk, he⟩ := psIn_mem (List.getElem_mem hl)
    rw [he] at hl
    exact mem_mks.mpr ⟨i, j, c, hc, hl, by rw [hk, Int.add_comm]⟩
  · simp at h
theorem bs_len {C : List Co} {m : Mk} {k : Int} (h : wallOk C) : (bsF C m k).length ≤ 24 := by
  unfold bsF
  split
  · unfold shF
    rw [List.length_map]
    refine Nat.le_trans (List.length_filter_le _ _) ?_
    rw [List.length_range]
    unfold psIn
    split
    · split
      · rename_i c hc
        exact (h.2.1 c (List.mem_of_getElem? hc)).2.2.2
      · decide
    · decide
  · decide
theorem sml_bs {n : Nat} {C : List Co} {m : Mk} {k : Int} (h : wallOk C) (_hm : m ∈ mksF C 1) : sml 6792 (n + 2) (mksD (bsF C m k)) := sml_mks h (fun u hu => bs_sub hu) (bs_len h)
def someS : SemF := fun args Q E => ∃ (t : T) (C : List Co), args = [t, .fz (mksD (mksF C 1))] ∧ IsBag t ∧ wallOk C ∧ ∀ (ms : List Mk) t', ms.length ≤ 24 → (∀ m, m ∈ ms → m ∈ mksF C 1) → IsBag t' → Q (.fz (mksD ms)) [t']
def heldN (C : List Co) (ms : List Mk) (j : Nat) : List Mk := ((mksF C 1).take j).foldl (hlF C ms) []
theorem heldN_succ {C : List Co} {ms : List Mk} {j : Nat} {m : Mk} (h : (mksF C 1)[j]? = some m) : heldN C ms (j + 1) = hlF C ms (heldN C ms j) m := by
  unfold heldN
  rw [List.take_succ, h, Option.toList_some, List.foldl_append]; rfl
theorem heldN_all {C : List Co} {ms : List Mk} : heldN C ms (mksF C 1).length = heldF C ms := by unfold heldN heldF; rw [List.take_length]
theorem heldN_sub {C : List Co} {ms : List Mk} : ∀ {j : Nat}, (heldN C ms j).Sublist ((mksF C 1).take j)
  | 0 => by simp [heldN]
  | j + 1 => by
    cases e : (mksF C 1)[j]? with
    | none =>
      have hl := List.getElem?_eq_none_iff.mp e
      have ih := heldN_sub (C := C) (ms := ms) (j := j)
      unfold heldN at ih ⊢
      rw [List.take_of_length_le (by omega)] at ih ⊢
      exact ih
    | some m =>
      have ih := heldN_sub (C := C) (ms := ms) (j := j)
      rw [heldN_succ e, List.take_succ, e, Option.toList_some, hlF]
      split
      · exact List.Sublist.append ih (List.Sublist.refl _)
      · exact ih.trans (List.sublist_append_left _ _)
theorem heldN_len {C : List Co} {ms : List Mk} {j : Nat} : (heldN C ms j).length ≤ (mksF C 1).length := by
  refine Nat.le_trans heldN_sub.length_le ?_
  rw [List.length_take]; omega
theorem held_sub {C : List Co} {ms : List Mk} {m : Mk} (h : m ∈ heldF C ms) : m ∈ mksF C 1 := by
  rw [← heldN_all] at h
  have := heldN_sub.subset h
  rwa [List.take_length] at this
theorem held_len {C : List Co} {ms : List Mk} (h : wallOk C) : (heldF C ms).length ≤ 24 := by
  have h1 := heldN_len (C := C) (ms := ms) (j := (mksF C 1).length)
  rw [heldN_all] at h1
  have h2 := mks_len (C := C) (k := 1)
  have := h.2.2.1
  omega
theorem any_mks {u : Mk} : ∀ {ms : List Mk}, ((ms.map mkD).any fun z => eqD z (mkD u)) = decide (u ∈ ms)
  | [] => rfl
  | m :: ms => by
    rw [List.map_cons, List.any_cons, any_mks]
    have : eqD (mkD m) (mkD u) = decide (u = m) := by
      simp only [eqD, eqDs, Bool.and_true, ← Bool.decide_and]
      exact decide_eq_decide.mpr ⟨fun h => Prod.ext h.1.symm h.2.symm, fun h => by rw [h]; exact ⟨rfl, rfl⟩⟩
    rw [this, ← Bool.decide_or]
    exact decide_eq_decide.mpr List.mem_cons.symm
theorem pls_mks {n : Nat} {ms : List Mk} : Dspl (n + 1) (ms.map mkD) = true := pls_all fun d hd => by
  obtain ⟨m, _, rfl⟩ := List.mem_map.mp hd
  exact pl_mk

def pLt2 (p q : Mk) : Prop := p.1 < q.1 ∨ (p.1 = q.1 ∧ p.2 < q.2)
theorem pLt_irr {p : Mk} : ¬ pLt2 p p := fun h => by unfold pLt2 at h; omega
theorem pLt_tr {p q r : Mk} (h : pLt2 p q) (g : pLt2 q r) : pLt2 p r := by unfold pLt2 at *; omega
theorem pLt_as {p q : Mk} (h : pLt2 p q) (g : pLt2 q p) : False := pLt_irr (pLt_tr h g)
theorem ris_eq : ∀ {as bs : List Mk}, as.Pairwise pLt2 → bs.Pairwise pLt2 → (∀ m, m ∈ as ↔ m ∈ bs) → as = bs
  | [], [], _, _, _ => rfl
  | [], b :: bs, _, _, h => by have := (h b).mpr (by simp); simp at this
  | a :: as, [], _, _, h => by have := (h a).mp (by simp); simp at this
  | a :: as, b :: bs, h1, h2, h => by
    obtain ⟨a1, a2⟩ := List.pairwise_cons.mp h1
    obtain ⟨b1, b2⟩ := List.pairwise_cons.mp h2
    have e : a = b := by
      rcases List.mem_cons.mp ((h a).mp (by simp)) with q | q
      · exact q
      · rcases List.mem_cons.mp ((h b).mpr (by simp)) with r | r
        · exact r.symm
        · exact (pLt_as (a1 b r) (b1 a q)).elim
    subst e
    rw [ris_eq a2 b2 fun m => ?_]
    constructor
    · intro hm
      rcases List.mem_cons.mp ((h m).mp (List.mem_cons_of_mem _ hm)) with q | q
      · subst q; exact (pLt_irr (a1 _ hm)).elim
      · exact q
    · intro hm
      rcases List.mem_cons.mp ((h m).mpr (List.mem_cons_of_mem _ hm)) with q | q
      · subst q; exact (pLt_irr (b1 _ hm)).elim
      · exact q
theorem row_ris {k : Int} {n : Nat} : (rowMk k n).Pairwise pLt2 := by
  unfold rowMk
  exact List.pairwise_map.mpr (List.pairwise_lt_range.imp fun {i j} h => .inr ⟨rfl, by show (i : Int) + 1 < (j : Int) + 1; omega⟩)
theorem mks_ris : ∀ {C : List Co} {k : Int}, (mksF C k).Pairwise pLt2
  | [], _ => .nil
  | c :: C, k => by
    rw [mksF]
    refine List.pairwise_append.mpr ⟨row_ris, mks_ris, fun a ha b hb => ?_⟩
    obtain ⟨j, _, rfl⟩ := mem_rowMk.mp ha
    obtain ⟨i, j', c', _, _, rfl⟩ := mem_mks.mp hb
    exact .inl (by show k < k + 1 + (i : Int); omega)
theorem sh_ris {p : Pl} {k : Int} {ps : List Pl} : (shF p k ps).Pairwise pLt2 := by
  unfold shF
  exact List.pairwise_map.mpr ((List.pairwise_lt_range.sublist List.filter_sublist).imp fun {i j} h => .inr ⟨rfl, by show (i : Int) + 1 < (j : Int) + 1; omega⟩)
theorem bs_ris {C : List Co} {m : Mk} {k : Int} : (bsF C m k).Pairwise pLt2 := by
  unfold bsF
  split
  · exact sh_ris
  · exact .nil
theorem held_ris {C : List Co} {ms : List Mk} : (heldF C ms).Pairwise pLt2 := by
  rw [← heldN_all]
  exact (mks_ris (C := C) (k := 1)).sublist (heldN_sub.trans (List.take_sublist _ _))
theorem shB_comm {p q : Pl} : shB p q = shB q p := by unfold shB; rw [Bool.and_comm]
theorem mem_bs {C : List Co} {m o : Mk} {k : Int} {p q : Pl} (hp : plAt C m = some p) (ho : o ∈ mksF C 1) (hq : plAt C o = some q) : o ∈ bsF C m k ↔ o.1 = k ∧ shB p q = true := by
  obtain ⟨i, j, c, q', hi, hj, rfl, e1, e2⟩ := mks_at ho
  rw [hq] at e2
  cases e2
  unfold bsF
  rw [hp]
  simp only
  unfold shF
  rw [List.mem_map]
  constructor
  · rintro ⟨j', hj', e⟩
    have h1 : k = (i : Int) + 1 := by have := congrArg Prod.fst e; exact this
    have h2 : (j' : Int) + 1 = (j : Int) + 1 := by have := congrArg Prod.snd e; exact this
    have h3 : j' = j := by omega
    subst h3
    refine ⟨h1.symm, ?_⟩
    have := (List.mem_filter.mp hj').2
    rw [psIn_at hi h1, hj] at this
    exact this
  · rintro ⟨h1, h2⟩
    refine ⟨j, List.mem_filter.mpr ⟨List.mem_range.mpr ?_, ?_⟩, ?_⟩
    · rw [psIn_at hi h1.symm]; exact (List.getElem?_eq_some_iff.mp hj).1
    · rw [psIn_at hi h1.symm, hj]; exact h2
    · rw [← h1]
theorem bs_at {C : List Co} {m o : Mk} {k : Int} (h : o ∈ bsF C m k) : o.1 = k := by
  unfold bsF at h
  split at h
  · unfold shF at h
    obtain ⟨j, _, rfl⟩ := List.mem_map.mp h
    rfl
  · simp at h
theorem mem_heldN {C : List Co} {ms : List Mk} {m : Mk} : ∀ {j : Nat}, m ∈ heldN C ms j ↔ ∃ i, i < j ∧ (mksF C 1)[i]? = some m ∧ ((bsF C m (m.1 - 1)).any (fun u => decide (u ∈ ms) || decide (u ∈ heldN C ms i))) = true
  | 0 => by simp [heldN]
  | j + 1 => by
    have ih := mem_heldN (C := C) (ms := ms) (m := m) (j := j)
    cases e : (mksF C 1)[j]? with
    | none =>
      have hl := List.getElem?_eq_none_iff.mp e
      have : heldN C ms (j + 1) = heldN C ms j := by
        unfold heldN
        rw [List.take_of_length_le (by omega), List.take_of_length_le hl]
      rw [this, ih]
      exact ⟨fun ⟨i, h1, h2⟩ => ⟨i, by omega, h2⟩, fun ⟨i, h1, h2, h3⟩ => ⟨i, by have := (List.getElem?_eq_some_iff.mp h2).1; omega, h2, h3⟩⟩
    | some x =>
      rw [heldN_succ e, hlF]
      constructor
      · intro h
        split at h
        · rename_i z
          rcases List.mem_append.mp h with q | q
          · obtain ⟨i, h1, h2⟩ := ih.mp q
            exact ⟨i, by omega, h2⟩
          · simp at q; subst q; exact ⟨j, by omega, e, z⟩
        · obtain ⟨i, h1, h2⟩ := ih.mp h
          exact ⟨i, by omega, h2⟩
      · rintro ⟨i, h1, h2, h3⟩
        rcases Nat.lt_or_ge i j with q | q
        · have := ih.mpr ⟨i, q, h2, h3⟩
          split
          · exact List.mem_append_left _ this
          · exact this
        · have : i = j := by omega
          subst this
          rw [e] at h2
          cases h2
          rw [if_pos h3]; simp
theorem held_mem {C : List Co} {ms : List Mk} {m : Mk} (hm : m ∈ mksF C 1) : m ∈ heldF C ms ↔ ((bsF C m (m.1 - 1)).any (fun u => decide (u ∈ ms) || decide (u ∈ heldF C ms))) = true := by
  obtain ⟨i, hi⟩ := List.getElem?_of_mem hm
  have hil := (List.getElem?_eq_some_iff.mp hi).1
  have key : ∀ u, u ∈ bsF C m (m.1 - 1) → (u ∈ heldN C ms i ↔ u ∈ heldF C ms) := fun u hu => by
    have hu1 := bs_at hu
    rw [← heldN_all, mem_heldN, mem_heldN]
    constructor
    · rintro ⟨a, a1, a2⟩
      exact ⟨a, by omega, a2⟩
    · rintro ⟨a, a1, a2, a3⟩
      refine ⟨a, ?_, a2, a3⟩
      have hal := (List.getElem?_eq_some_iff.mp a2).1
      rcases Nat.lt_or_ge a i with q | q
      · exact q
      · exfalso
        have e1 := (List.getElem?_eq_some_iff.mp a2).2
        have e2 := (List.getElem?_eq_some_iff.mp hi).2
        rcases Nat.lt_or_eq_of_le q with r | r
        · have := List.pairwise_iff_getElem.mp (mks_ris (C := C) (k := 1)) i a hil hal r
          rw [e1, e2] at this
          unfold pLt2 at this; omega
        · subst r
          rw [a2] at hi
          cases hi
          omega
  have any_eq : (bsF C m (m.1 - 1)).any (fun u => decide (u ∈ ms) || decide (u ∈ heldN C ms i)) = (bsF C m (m.1 - 1)).any (fun u => decide (u ∈ ms) || decide (u ∈ heldF C ms)) := by
    rw [Bool.eq_iff_iff, List.any_eq_true, List.any_eq_true]
    constructor
    · rintro ⟨u, hu, h⟩
      refine ⟨u, hu, ?_⟩
      rw [Bool.or_eq_true, decide_eq_true_eq, decide_eq_true_eq] at h ⊢
      rwa [← key u hu]
    · rintro ⟨u, hu, h⟩
      refine ⟨u, hu, ?_⟩
      rw [Bool.or_eq_true, decide_eq_true_eq, decide_eq_true_eq] at h ⊢
      rwa [key u hu]
  rw [← any_eq, ← heldN_all, mem_heldN]
  constructor
  · rintro ⟨a, a1, a2, a3⟩
    have hal := (List.getElem?_eq_some_iff.mp a2).1
    have : a = i := by
      have e1 := (List.getElem?_eq_some_iff.mp a2).2
      have e2 := (List.getElem?_eq_some_iff.mp hi).2
      rcases Nat.lt_trichotomy a i with q | q | q
      · have := List.pairwise_iff_getElem.mp (mks_ris (C := C) (k := 1)) a i hal hil q
        rw [e1, e2] at this; exact (pLt_irr this).elim
      · exact q
      · have := List.pairwise_iff_getElem.mp (mks_ris (C := C) (k := 1)) i a hil hal q
        rw [e1, e2] at this; exact (pLt_irr this).elim
    subst this
    exact a3
  · intro h
    exact ⟨i, hil, hi, h⟩
theorem held_union {C : List Co} {as bs : List Mk} : ∀ (n : Nat) {m : Mk}, m.1 ≤ (n : Int) → m ∈ mksF C 1 → (m ∈ heldF C (as ++ bs) ↔ m ∈ heldF C as ∨ m ∈ heldF C bs)
  | 0, m, hn, hm => by
    obtain ⟨i, j, c, _, _, rfl⟩ := mem_mks.mp hm
    have : 1 + (i : Int) ≤ ((0 : Nat) : Int) := hn
    omega
  | n + 1, m, hn, hm => by
    rw [held_mem hm, held_mem hm, held_mem hm, List.any_eq_true, List.any_eq_true, List.any_eq_true]
    have ih : ∀ u, u ∈ bsF C m (m.1 - 1) → (u ∈ heldF C (as ++ bs) ↔ u ∈ heldF C as ∨ u ∈ heldF C bs) := fun u hu => held_union n (by have := bs_at hu; omega) (bs_sub hu)
    simp only [Bool.or_eq_true, decide_eq_true_eq]
    constructor
    · rintro ⟨u, hu, h⟩
      rw [ih u hu, List.mem_append] at h
      rcases h with (h | h) | (h | h)
      · exact .inl ⟨u, hu, .inl h⟩
      · exact .inr ⟨u, hu, .inl h⟩
      · exact .inl ⟨u, hu, .inr h⟩
      · exact .inr ⟨u, hu, .inr h⟩
    · rintro (⟨u, hu, h⟩ | ⟨u, hu, h⟩)
      · refine ⟨u, hu, ?_⟩
        rw [ih u hu, List.mem_append]
        rcases h with h | h
        · exact .inl (.inl h)
        · exact .inr (.inl h)
      · refine ⟨u, hu, ?_⟩
        rw [ih u hu, List.mem_append]
        rcases h with h | h
        · exact .inl (.inr h)
        · exact .inr (.inr h)
def spnF (C : List Co) (m : Mk) : D := match plAt C m with | some p => .nd .tup [.int p.x, .int (p.x + p.w)] | none => .non
def mkK (m : Mk) : List Key := [.inl m.1, .inl m.2]
def spnsD (C : List Co) (l : List Mk) : D := .nd (.dT (l.map mkK)) (l.map (spnF C))
theorem mkK_inj {m o : Mk} (h : mkK m = mkK o) : m = o := by
  unfold mkK at h
  injection h with h1 h2
  injection h2 with h2 _
  injection h1 with h1
  injection h2 with h2
  exact Prod.ext h1 h2
theorem look_spn {C : List Co} : ∀ {l : List Mk} {m : Mk}, m ∈ l → QV.look (l.map mkK) (l.map (spnF C)) (mkK m) = some (spnF C m)
  | [], _, h => by simp at h
  | o :: l, m, h => by
    rw [List.map_cons, List.map_cons, QV.look]
    by_cases e : mkK o = mkK m
    · rw [if_pos e, mkK_inj e]
    · rw [if_neg e]
      rcases List.mem_cons.mp h with q | q
      · subst q; exact absurd rfl e
      · exact look_spn q
theorem has_mk {l : List Mk} {m : Mk} (h : m ∉ l) : hasG (l.map mkK) (mkK m) = false := by
  unfold hasG
  rw [List.any_eq_false]
  intro x hx
  obtain ⟨o, ho, rfl⟩ := List.mem_map.mp hx
  intro e
  have := mkK_inj (of_decide_eq_true e)
  subst this
  exact h ho
def spansS (ca : Str → Addr) : SemF := fun args Q E => ∃ C : List Co, args = [.fz (walD ca C), .fz (mksD (mksF C 1))] ∧ wallOk C ∧ Q (.fz (spnsD C (mksF C 1))) []
def relatedS (ca : Str → Addr) : SemF := fun args Q E => ∃ C : List Co, args = [.fz (walD ca C), .fz (mksD (mksF C 1))] ∧ wallOk C ∧ Q (.fz (.bl true)) []
def leastS (ca : Str → Addr) : SemF := fun args Q E => ∃ (C : List Co) (ms : List Mk), args = [.fz (walD ca C), .fz (mksD (mksF C 1)), .fz (mksD ms), .fz (mksD (heldF C ms))] ∧ wallOk C ∧ ms.length ≤ 24 ∧ (∀ m, m ∈ ms → m ∈ mksF C 1) ∧ Q (.fz (.bl true)) []

section
variable {P : Program} {w : World} {K : PySem.W.Frag} {mg : Str → Option Value} {base : Heap} {ca : Str → Addr}
def bagT (a b c : Int) (ns : List Int) : T := .ow .lst [.int a, .int b, .int c, .nd .lst (ns.map .int)]
theorem ok_take (Df : DefAt K mg "_law_take" s_take ["_law_bag_here", "_law_many"]) (B : Bt mg) : Callee P w K mg base 1 "_law_take" ["_law_bag_here", "_law_many"] [0] takeS := by
  refine callee_of Df sc_take (by decide) (by decide) fun f cdv A outer s H EX W hr hG tk hp => ?_
  refine ⟨_, (ss_cons (s_if (t_eq (hu65 hr) ((q_ixA (hu65 hr) (p_nm 0) (q_int).p)).p (q_int).p) (ss_cons (s_set 2 q_int sc_take.nd)
      (ss_cons (s_if (t_lt ((q_ixA (hu65 hr) (p_nm 0) (q_int).p)).p ((q_b1 c_lenB g_lenB (by rfl) B.len bt_len ((q_ixA (hu65 hr) (p_nm 0) (q_int).p)).p)).p) (ss_one (s_set 2 (q_ixA (hu65 hr) ((q_ixA (hu65 hr) (p_nm 0) (q_int).p)).p ((q_ixA (hu65 hr) (p_nm 0) (q_int).p)).p) sc_take.nd)) ss_nil).cut
      (ss_cons (s_augS 0 ip_add q_int q_int)
      (ss_cons (s_if (t_ge (p_nm 2) (q_int).p) (ss_one (s_store 0 (p_nm 2).val q_int)) ss_nil).cut
      (ss_one (s_store 0 (q_mod ((q_add ((q_add ((q_mul ((q_ixA (hu65 hr) (p_nm 0) (q_int).p)).p (q_int).p)).p ((q_mod (p_nm 2) (q_int).p)).p)).p ((q_mul (q_int).p ((q_ixA (hu65 hr) (p_nm 0) (q_int).p)).p)).p)).p (q_int).p) q_int)))))) ss_nil).cut
      (ss_cons (s_if (t_gt ((q_ixA (hu65 hr) (p_nm 0) (q_int).p)).p (q_int).p) (ss_cons (s_set 3 (q_mod ((q_ixA (hu65 hr) (p_nm 0) (q_int).p)).p (p_nm 1)) sc_take.nd)
      (ss_cons (s_store 0 (q_fdiv ((q_ixA (hu65 hr) (p_nm 0) (q_int).p)).p (p_nm 1)) q_int)
      (ss_one (s_ret (p_nm 3).val)))) ss_nil)
      (ss_cons (s_set 4 (q_mod ((q_mul ((q_add ((q_ixA (hu65 hr) (p_nm 0) (q_int).p)).p (q_int).p)).p (q_int).p)).p (q_int).p) sc_take.nd)
      (ss_cons (s_set 5 (q_mod ((q_mul ((q_mod ((q_mul (p_nm 4) (p_nm 4))).p (q_int).p)).p (q_int).p)).p (q_int).p) sc_take.nd)
      (ss_cons (s_if (t_gt (p_nm 1) (q_int).p) (ss_one (s_ret (q_mod ((q_add ((q_mul (p_nm 5) (q_int).p)).p (p_nm 4))).p (p_nm 1)))) ss_nil)
      (ss_one (s_ret (q_mod ((q_fdiv (p_nm 5) (q_int).p)).p (p_nm 1))))))))), fun args Q E hl h => ?_⟩
  clear hl hr hG tk hp W EX H s outer A cdv f Df B
  obtain ⟨t, n, rfl, ⟨a, b, c, ns, rfl, ha, hb, hb2, hc, hns⟩, hn, hn2, h⟩ := h
  walk_at "vs"
  refine .mk ⟨fun e => ∃ a b c : Int, ∃ ns x, e = [some (bagT a b c ns), some (.fz (.int n)), x, none, none, none] ∧ 0 ≤ a ∧ 0 ≤ b ∧ b < 2147483647 ∧ 0 ≤ c ∧ ∀ x, x ∈ ns → 0 ≤ x, ?_, ?_⟩
  · walk_at "vs"
    refine ⟨fun h1 => ?_, fun h1 => ?_⟩
    · refine .mk ⟨fun e => ∃ x : Int, e = [some (bagT a b c ns), some (.fz (.int n)), some (.fz (.int x)), none, none, none] ∧ 0 ≤ x, ?_, ?_⟩
      · walk_at "vs"
        refine ⟨fun h2 => ?_, fun h2 => ?_⟩
        · walk_at "vs"
          simp at h2
          obtain ⟨d, e, m⟩ := at_lt (ds := ns.map D.int) hc (by simpa using h2)
          obtain ⟨x, mx, rfl⟩ := List.mem_map.mp m
          exact ⟨_, e, x, rfl, hns x mx⟩
        · exact ⟨0, rfl, by omega⟩
      · rintro e ⟨x, rfl, hx⟩
        walk_at "vs"
        refine ⟨show 2 < 4 by decide, rfl, ?_⟩
        refine .mk ⟨fun e => ∃ a : Int, e = [some (bagT a b (c + 1) ns), some (.fz (.int n)), some (.fz (.int x)), none, none, none] ∧ 0 ≤ a, ?_, ?_⟩
        · refine ⟨fun h2 => ?_, fun h2 => ?_⟩
          · walk_at "vs"
            exact hx
          · exact ⟨a, rfl, ha⟩
        · rintro e ⟨a, rfl, ha⟩
          walk_at "vs"
          exact ⟨a, _, c + 1, ns, _, rfl, ha, Int.emod_nonneg _ (by decide), Int.emod_lt_of_pos _ (by decide), by omega, hns⟩
    · exact ⟨a, b, c, ns, _, rfl, ha, hb, hb2, hc, hns⟩
  · rintro e ⟨a, b, c, ns, x, rfl, ha, hb, hb2, hc, hns⟩
    walk_at "vs"
    refine ⟨fun h1 => ?_, fun h1 => ?_⟩
    · walk_at "vs"
      exact h _ _ (Int.emod_nonneg _ (by omega)) (Int.emod_lt_of_pos _ (by omega)) ⟨a / n, b, c, ns, rfl, Int.ediv_nonneg ha (by omega), hb, hb2, hc, hns⟩
    · walk_at "vs"
      refine ⟨fun h2 => ?_, fun h2 => ?_⟩
      · walk_at "vs"
        exact h _ _ (Int.emod_nonneg _ (by omega)) (Int.emod_lt_of_pos _ (by omega)) ⟨a, b, c, ns, rfl, ha, hb, hb2, hc, hns⟩
      · walk_at "vs"
        exact h _ _ (Int.emod_nonneg _ (by omega)) (Int.emod_lt_of_pos _ (by omega)) ⟨a, b, c, ns, rfl, ha, hb, hb2, hc, hns⟩
theorem ok_bag (Df : DefAt K mg "_law_bag" s_bag ["_law_script"]) (B : Bt mg) : Callee P w K mg base 1 "_law_bag" ["_law_script"] [] bagS := by
  refine callee_of Df sc_bag (by decide) (by decide) fun f cdv A outer s H EX W hr hG tk hp => ?_
  refine ⟨_, (ss_one (s_ret (q_lst (a_cons q_int (a_cons q_int (a_cons q_int (a_cons ((q_lc (own := [("_law_cell", 1)]) rfl sc_bag.nd (i_list ((q_slice (p_nm 0) o_none (o_some q_int))).fz) (blkOk_by (by rfl)) (fun _ _ _ _ _ => (g_name 1 sc_bag.nd)) (fun _ _ _ _ _ => ts_nil) (fun _ _ _ _ _ => (q_b1 call_abs g_abs (by rfl) B.abs bt_abs (p_nm 1))))).fz a_nil))))))), fun args Q E hl h => ?_⟩
  clear hl hr hG tk hp W EX H s outer A cdv f Df B
  obtain ⟨ns, rfl, hn, h⟩ := h
  refine ⟨?_, ?_⟩
  · exact Nat.le_trans hn (by decide)
  refine .mk ⟨fun j acc e => ∃ xs : List Int, acc = xs.map .int ∧ e = [some (.fz (.scr ns)), none] ∧ ∀ x, x ∈ xs → 0 ≤ x, ⟨[], rfl, rfl, by simp⟩, ?_, ?_⟩
  · rintro j d acc e hd ⟨xs, rfl, rfl, hx⟩
    obtain ⟨x, _, rfl⟩ := List.mem_map.mp (List.mem_of_getElem? hd)
    refine ⟨fun _ => ?_, fun z => nomatch z⟩
    exact ⟨xs ++ [if x < 0 then -x else x], by simp, rfl, fun y hy => by
      rcases List.mem_append.mp hy with q | q
      · exact hx y q
      · simp at q; subst q; split <;> omega⟩
  · rintro acc e ⟨xs, rfl, rfl, hx⟩
    exact h _ ⟨0, 1234567891, 0, xs, rfl, by decide, by decide, by decide, by decide, hx⟩
theorem ok_alike (Df : DefAt K mg "_law_alike" s_alike ["_law_found", "_law_due"]) (B : Bt mg) : Callee P w K mg base 1 "_law_alike" ["_law_found", "_law_due"] [] alikeS := by
  refine callee_of Df sc_alike (by decide) (by decide) fun f cdv A outer s H EX W hr hG tk hp => ?_
  refine ⟨_, (ss_one (s_ret (q_and (q_eq (hu65 hr) (p_nm 0) (p_nm 1)) (q_one (q_eq (hu65 hr) ((q_b1 (c_repr hG (hu66 hr)) g_repr (by rfl) B.repr bt_repr (p_nm 0))).p ((q_b1 (c_repr hG (hu66 hr)) g_repr (by rfl) B.repr bt_repr (p_nm 1))).p))))), fun args Q E hl h => ?_⟩
  clear hl hr hG tk hp W EX H s outer A cdv f Df B
  obtain ⟨d, rfl, hp, hs, h⟩ := h
  refine ⟨.inr ⟨hp, hp⟩, fun h1 => ?_, fun h1 => ?_⟩
  · refine ⟨hp, hs, hp, hs, .inl rfl, ?_⟩
    have e : eqD (.str d.py.shown) (.str d.py.shown) = true := by simp [eqD]
    show Q (.fz (.bl (eqD (.str d.py.shown) (.str d.py.shown)))) []
    rw [e]
    exact h
  · simp [T.d, eqD_self 64 d hp] at h1

theorem ok_is_whole (Df : DefAt K mg "is_whole" s_is_whole ["thing"]) (B : Bt mg) : Callee P w K mg base 1 "is_whole" ["thing"] [] wholeI := by
  refine callee_of Df sc_is_whole (by decide) (by decide) fun f cdv A outer s H EX W hr hG tk hp => ?_
  refine ⟨_, (ss_one (s_ret (q_and (q_isi ki_int (by rfl) B.isinstance (by rfl) B.int bt_int (p_nm 0)) (q_one (q_not (q_isi ki_bl (by rfl) B.isinstance (by rfl) B.bool bt_bool (p_nm 0))))))), fun args Q E hl h => ?_⟩
  clear hl hr hG tk hp W EX H s outer A cdv f Df B
  obtain ⟨i, rfl, h⟩ := h
  walk_at "nf"
  exact ⟨true, rfl, fun _ => ⟨false, rfl, h⟩, fun z => nomatch z⟩
theorem ok_is_between (Df : DefAt K mg "is_between" s_is_between ["thing", "least", "most"]) (C_is_whole : Callee P w K mg base 1 "is_whole" ["thing"] [] wholeI) : Callee P w K mg base 2 "is_between" ["thing", "least", "most"] [] betweenI := by
  refine callee_of Df sc_is_between (by decide) (by decide) fun f cdv A outer s H EX W hr hG tk hp => ?_
  refine ⟨_, (ss_one (s_ret (q_and (q_callC C_is_whole tk (hr.mono (by decide)) hG (by rfl) (a_cons (p_nm 0).val a_nil) []) (q_one (q_chain op_le op_le (p_nm 1) (p_nm 0) (p_nm 2)))))), fun args Q E hl h => ?_⟩
  clear hl hr hG tk hp W EX H s outer A cdv f Df C_is_whole
  obtain ⟨i, a, b, rfl, h1, h2, h⟩ := h
  walk_at "nf"
  refine ⟨i, rfl, ?_⟩
  refine ⟨fun _ => ⟨decide (i ≤ b), fun _ => ⟨rfl, rfl⟩, ?_⟩, fun z => nomatch z⟩
  have e1 : decide (a ≤ i) = true := decide_eq_true h1
  have e2 : decide (i ≤ b) = true := decide_eq_true h2
  show Q (.fz (.bl (decide (a ≤ i) && decide (i ≤ b)))) []
  rw [e1, e2]
  exact h
theorem ok_is_measure (Df : DefAt K mg "is_measure" s_is_measure ["thing"]) (B : Bt mg) (C_is_between : Callee P w K mg base 2 "is_between" ["thing", "least", "most"] [] betweenI) : Callee P w K mg base 3 "is_measure" ["thing"] [] measureI := by
  refine callee_of Df sc_is_measure (by decide) (by decide) fun f cdv A outer s H EX W hr hG tk hp => ?_
  refine ⟨_, (ss_one (s_ret (q_callC C_is_between tk (hr.mono (by decide)) hG (by rfl) (a_cons (p_nm 0).val (a_cons q_int (a_cons (q_glob (n := 1000000) (by rfl) B.g_MOST_MEASURE) a_nil))) []))), fun args Q E hl h => ?_⟩
  clear hl hr hG tk hp W EX H s outer A cdv f Df B C_is_between
  obtain ⟨i, rfl, h1, h⟩ := h
  exact ⟨i, 1, 1000000, rfl, h1.1, h1.2, h⟩
theorem ok_is_spot (Df : DefAt K mg "is_spot" s_is_spot ["thing"]) (B : Bt mg) (C_is_between : Callee P w K mg base 2 "is_between" ["thing", "least", "most"] [] betweenI) : Callee P w K mg base 3 "is_spot" ["thing"] [] spotI := by
  refine callee_of Df sc_is_spot (by decide) (by decide) fun f cdv A outer s H EX W hr hG tk hp => ?_
  refine ⟨_, (ss_one (s_ret (q_callC C_is_between tk (hr.mono (by decide)) hG (by rfl) (a_cons (p_nm 0).val (a_cons q_int (a_cons (q_glob (n := 1000000) (by rfl) B.g_MOST_MEASURE) a_nil))) []))), fun args Q E hl h => ?_⟩
  clear hl hr hG tk hp W EX H s outer A cdv f Df B C_is_between
  obtain ⟨i, rfl, h1, h2, h⟩ := h
  exact ⟨i, 0, 1000000, rfl, h1, h2, h⟩

theorem gLet_of {g : Str} (h : (decide (1 ≤ g.length) && (decide (g.length ≤ 8) && g.cps.toList.all fun c => decide (c ∈ abcL))) = true) : gLet g := by
  simp only [Bool.and_eq_true, decide_eq_true_eq, List.all_eq_true] at h
  exact h
theorem joinL_flat : ∀ ls : List (List Nat), TL.joinL [] ls = ls.flatten
  | [] => rfl
  | [p] => by simp [TL.joinL]
  | p :: q :: r => by
    have := joinL_flat (q :: r)
    simp only [TL.joinL, List.flatten_cons, List.nil_append] at this ⊢
    rw [this]
theorem flat_ones : ∀ {ys : List Str}, (∀ y, y ∈ ys → ∃ c, y = ⟨#[c]⟩ ∧ c ∈ abcL) → (ys.map TL.tl).flatten.length = ys.length ∧ ∀ c, c ∈ (ys.map TL.tl).flatten → c ∈ abcL
  | [], _ => by simp
  | y :: ys, h => by
    obtain ⟨a, b⟩ := flat_ones (ys := ys) fun z hz => h z (List.mem_cons_of_mem _ hz)
    obtain ⟨c, rfl, hc⟩ := h y (by simp)
    have e : TL.tl ⟨#[c]⟩ = [c] := rfl
    refine ⟨by rw [List.map_cons, List.flatten_cons, List.length_append, a, e]; simp; omega, fun d hd => ?_⟩
    rw [List.map_cons, List.flatten_cons, e] at hd
    rcases List.mem_append.mp hd with q | q
    · simp at q; subst q; exact hc
    · exact b d q
theorem gLet_join {ys : List Str} (h : ∀ y, y ∈ ys → ∃ c, y = ⟨#[c]⟩ ∧ c ∈ abcL) (h1 : 1 ≤ ys.length) (h2 : ys.length ≤ 8) : gLet (Txt.join "" ys) := by
  have e : (Txt.join "" ys).cps.toList = TL.joinL [] (ys.map TL.tl) := by
    have := (congrArg TL.tl (TL.join_eq "" ys)).trans (TL.tl_join "" ys)
    exact this
  rw [joinL_flat] at e
  obtain ⟨a, b⟩ := flat_ones h
  have l : (Txt.join "" ys).length = ys.length := by
    have : (Txt.join "" ys).length = (Txt.join "" ys).cps.toList.length := rfl
    rw [this, e, a]
  exact ⟨by rw [l]; exact h1, by rw [l]; exact h2, by rw [e]; exact b⟩
theorem ok_grains (Df : DefAt K mg "_law_grains" s_grains ["_law_bag_here"]) (B : Bt mg) (C_take : Callee P w K mg base 1 "_law_take" ["_law_bag_here", "_law_many"] [0] takeS) : Callee P w K mg base 2 "_law_grains" ["_law_bag_here"] [0] grainsS := by
  refine callee_of Df sc_grains (by decide) (by decide) fun f cdv A outer s H EX W hr hG tk hp => ?_
  refine ⟨_, (ss_cons (s_set 1 q_str sc_grains.nd)
      (ss_cons (s_set 2 ((q_lst (a_cons q_str (a_cons q_str (a_cons q_str (a_cons q_str (a_cons q_str (a_cons q_str a_nil)))))))).fz sc_grains.nd)
      (ss_cons (s_set 3 (q_lst a_nil) sc_grains.nd)
      (ss_cons (s_for hp rfl (i_rng (by rfl) B.range (q_ixA (hu65 hr) ((q_lst (a_cons q_int (a_cons (q_add (q_int).p ((q_callC C_take tk (hr.mono (by decide)) hG (by rfl) (a_own 0 (a_cons q_int a_nil)) [0])).p) a_nil)))).p ((q_callC C_take tk (hr.mono (by decide)) hG (by rfl) (a_own 0 (a_cons q_int a_nil)) [0])).p)) (g_name 4 sc_grains.nd) (ss_cons (s_set 5 (q_callC C_take tk (hr.mono (by decide)) hG (by rfl) (a_own 0 (a_cons q_int a_nil)) [0]) sc_grains.nd)
      (ss_cons (s_set 6 (q_ixA (hu65 hr) (p_nm 2) ((q_callC C_take tk (hr.mono (by decide)) hG (by rfl) (a_own 0 (a_cons q_int a_nil)) [0])).p) sc_grains.nd)
      (ss_cons (s_if (t_gt (p_nm 5) (q_int).p) (ss_one (s_set 6 (q_join q_str ((q_lc (own := [("_law_j", 7)]) rfl sc_grains.nd (i_rng (by rfl) B.range (q_ixA (hu65 hr) ((q_lst (a_cons q_int (a_cons q_int (a_cons (q_add (q_int).p ((q_callC C_take tk (hr.mono (by decide)) hG (by rfl) (a_own 0 (a_cons q_int a_nil)) [0])).p) a_nil))))).p (p_nm 5))) (blkOk_by (by rfl)) (fun _ _ _ _ _ => (g_name 7 sc_grains.nd)) (fun _ _ _ _ _ => ts_nil) (fun _ _ _ _ _ => (q_ixA (hu65 hr) (p_nm 1) ((q_callC C_take takes0 (hr.mono (by decide)) hG (by rfl) (a_own 0 (a_cons q_int a_nil)) [0])).p)))).p) sc_grains.nd)) ss_nil).cut
      (ss_one (s_if (t_niA (hu65 hr) (p_nm 6) (p_nm 3)) (ss_one (s_expr (q_append 3 (a_cons (p_nm 6).val a_nil)))) ss_nil))))))
      (ss_one (s_ret (q_fzn 3))))))), fun args Q E hl h => ?_⟩
  clear hl hr hG tk hp W EX H s outer A cdv f Df B C_take
  obtain ⟨t, rfl, hb, h⟩ := h
  walk_at "vs"
  rename_i v1 b1 p1 q1 hb1 v2 b2 p2 q2 hb2
  refine at_all (C := fun d => ∃ i : Int, d = .int i ∧ 1 ≤ i ∧ i ≤ 3) p2 q2 (by simp; omega) ?_
  rintro _ ⟨i, rfl, i1, i2⟩
  refine ⟨show i ≤ (16777216 : Int) by omega, show -(2 ^ 62 : Int) ≤ i by omega, ?_⟩
  refine .mk ⟨fun j e => ∃ b gs x4 x5 x6 x7, e = [some b, some (.fz (.str "abcdefghijklmnopqrstuvwxyz")), some (.fz (.nd .lst [.str "along", .str "a", .str "ab", .str "either", .str "none", .str "bed"])), some (.ow .lst (gs.map .str)), x4, x5, x6, x7] ∧ IsBag b ∧ gs.length ≤ j ∧ (0 < j → 1 ≤ gs.length) ∧ ∀ g, g ∈ gs → gLet g, ⟨_, [], _, _, _, _, rfl, hb2, by simp, by simp, by simp⟩, ?_, ?_⟩
  · rintro j d e hd ⟨b, gs, x4, x5, x6, x7, rfl, hb, g1, g2, g3⟩
    obtain ⟨hj, rfl⟩ := rngD_get hd
    walk_at "vs"
    rename_i v3 b3 p3 q3 hb3 v4 b4 p4 q4 hb4
    refine at_all (C := fun d => ∃ x : Str, d = .str x ∧ gLet x) p4 q4 (by
      intro d hd
      simp only [List.mem_cons, List.not_mem_nil, or_false] at hd
      rcases hd with rfl | rfl | rfl | rfl | rfl | rfl <;> exact ⟨_, rfl, gLet_of (by decide +kernel)⟩) ?_
    rintro _ ⟨x, rfl, hx⟩
    refine .mk ⟨fun e => ∃ b x x7, e = [some b, some (.fz (.str "abcdefghijklmnopqrstuvwxyz")), some (.fz (.nd .lst [.str "along", .str "a", .str "ab", .str "either", .str "none", .str "bed"])), some (.ow .lst (gs.map .str)), some (.fz (.int (0 + (j : Int)))), some (.fz (.int v3)), some (.fz (.str x)), x7] ∧ IsBag b ∧ gLet x, ?_, ?_⟩
    · refine ⟨fun h1 => ?_, fun h1 => ⟨_, _, _, rfl, hb4, hx⟩⟩
      have h1 : (0 : Int) < v3 := by simpa using h1
      walk_at "vs"
      rename_i v5 b5 p5 q5 hb5
      have hm : ∃ m : Int, atI [D.int 0, D.int 1, D.int (1 + v5)] v3 = some (.int m) ∧ 1 ≤ m ∧ m ≤ 8 := by
        have q3 : v3 < 3 := by simpa using q3
        obtain rfl | rfl : v3 = 1 ∨ v3 = 2 := by omega
        · exact ⟨1, at_int (by decide) rfl, by omega, by omega⟩
        · exact ⟨1 + v5, at_int (by decide) rfl, by omega, by omega⟩
      obtain ⟨m, hm, m1, m2⟩ := hm
      refine ⟨_, hm, ?_⟩
      refine ⟨show m ≤ (16777216 : Int) by omega, show -(2 ^ 62 : Int) ≤ m by omega, ?_⟩
      refine .mk ⟨fun k acc e => ∃ b, ∃ ys : List Str, acc = ys.map .str ∧ e = [some b, some (.fz (.str "abcdefghijklmnopqrstuvwxyz")), some (.fz (.nd .lst [.str "along", .str "a", .str "ab", .str "either", .str "none", .str "bed"])), some (.ow .lst (gs.map .str)), some (.fz (.int (0 + (j : Int)))), some (.fz (.int v3)), some (.fz (.str x)), x7] ∧ IsBag b ∧ (ys.map (·.length)).sum ≤ k ∧ ys.length = k ∧ ∀ y, y ∈ ys → ∃ c, y = ⟨#[c]⟩ ∧ c ∈ abcL, ⟨_, [], rfl, rfl, hb5, by simp, by simp, by simp⟩, ?_, ?_⟩
      · rintro k d acc e hd ⟨b, ys, rfl, rfl, hb, z1, z2, z3⟩
        refine ⟨fun _ => ?_, fun z => nomatch z⟩
        walk_at "vs"
        rename_i v6 b6 p6 q6 hb6
        refine ⟨by decide, at_all (C := fun c => c ∈ abcL) p6 q6 (fun c hc => hc) fun c hc => ?_⟩
        exact ⟨b6, ys ++ [⟨#[c]⟩], by simp, rfl, hb6, by simp only [List.map_append, List.sum_append, List.map_cons, List.map_nil, List.sum_cons, List.sum_nil]; have : (Str.length ⟨#[c]⟩) = 1 := rfl; omega, by simp; omega, fun y hy => by
          rcases List.mem_append.mp hy with q | q
          · exact z3 y q
          · simp at q; exact ⟨c, q, hc⟩⟩
      · rintro acc e ⟨b, ys, rfl, rfl, hb, z1, z2, z3⟩
        rw [rngD_len] at z1 z2
        refine ⟨ys, rfl, ?_, ?_⟩
        · have : ("" : Str).length = 0 := rfl
          rw [this]; omega
        exact ⟨_, _, _, rfl, hb, gLet_join z3 (by omega) (by omega)⟩
    · rintro e ⟨b, x, x7, rfl, hb, hx⟩
      refine ⟨.inl (by simp [flD, T.d]), fun h1 => ?_, fun h1 => ?_⟩
      · refine ⟨rfl, ?_, ?_⟩
        · rw [List.length_map]; exact Nat.lt_of_le_of_lt (show gs.length ≤ 3 by omega) (by decide)
        exact ⟨b, gs ++ [x], _, _, _, _, by rw [List.map_append]; rfl, hb, by simp; omega, by simp, fun g hg => by
          rcases List.mem_append.mp hg with q | q
          · exact g3 g q
          · simp at q; subst q; exact hx⟩
      · refine ⟨b, gs, _, _, _, _, rfl, hb, by omega, fun _ => ?_, g3⟩
        rcases Nat.eq_zero_or_pos gs.length with z | z
        · rw [List.eq_nil_of_length_eq_zero z] at h1
          simp at h1
        · exact z
  · rintro e ⟨b, gs, x4, x5, x6, x7, rfl, hb, g1, g2, g3⟩
    rw [rngD_len] at g1 g2
    exact h gs b g3 (by omega) (by omega) hb

theorem ok_are_between (Df : DefAt K mg "are_between" s_are_between ["things", "least", "most"]) (C_is_between : Callee P w K mg base 2 "is_between" ["thing", "least", "most"] [] betweenI) : Callee P w K mg base 3 "are_between" ["things", "least", "most"] [] areI := by
  refine callee_of Df sc_are_between (by decide) (by decide) fun f cdv A outer s H EX W hr hG tk hp => ?_
  refine ⟨_, (ss_cons (s_for hp rfl (i_tup (p_nm 0).val) (g_name 3 sc_are_between.nd) (ss_one (s_if (t_not (t_val (q_callC C_is_between tk (hr.mono (by decide)) hG (by rfl) (a_cons (p_nm 3).val (a_cons (p_nm 1).val (a_cons (p_nm 2).val a_nil))) []))) (ss_one (s_ret q_bl)) ss_nil)))
      (ss_one (s_ret q_bl))), fun args Q E hl h => ?_⟩
  clear hl hr hG tk hp W EX H s outer A cdv f Df C_is_between
  obtain ⟨xs, a, b, rfl, hx, h⟩ := h
  walk_at "nf"
  refine .over xs D.int rfl [3] (fun j vs => ∃ y, vs = [y]) ⟨[_], rfl, _, rfl⟩ ?_ ?_
  · rintro j c vs hj ⟨y, rfl⟩
    have hc := hx c (List.mem_of_getElem? hj)
    exact ⟨c, a, b, rfl, hc.1, hc.2, fun z => (nomatch z), fun _ => ⟨[_], rfl, _, rfl⟩⟩
  · rintro vs ⟨y, rfl⟩
    exact h
theorem ok_is_lie (Df : DefAt K mg "is_lie" s_is_lie ["thing"]) (B : Bt mg) (G_LIES : GlobT K mg "LIES" ["along", "across", "either"]) : Callee P w K mg base 1 "is_lie" ["thing"] [] lieI := by
  refine callee_of Df sc_is_lie (by decide) (by decide) fun f cdv A outer s H EX W hr hG tk hp => ?_
  refine ⟨_, (ss_one (s_ret (q_and (q_isi ki_str (by rfl) B.isinstance (by rfl) B.str bt_str (p_nm 0)) (q_one (q_inGT (by rfl) G_LIES (p_nm 0)))))), fun args Q E hl h => ?_⟩
  clear hl hr hG tk hp W EX H s outer A cdv f Df B G_LIES
  obtain ⟨l, rfl, hl, h⟩ := h
  walk_at "nf"
  rcases hl with rfl | rfl | rfl <;> exact ⟨true, rfl, fun _ => ⟨_, rfl, h⟩, fun z => nomatch z⟩
theorem ok_is_grain (Df : DefAt K mg "is_grain" s_is_grain ["thing"]) (B : Bt mg) : Callee P w K mg base 1 "is_grain" ["thing"] [] grainE := by
  refine callee_of Df sc_is_grain (by decide) (by decide) fun f cdv A outer s H EX W hr hG tk hp => ?_
  refine ⟨_, (ss_cons (s_if ((w_orM (t_not (t_val (q_isi ki_str (by rfl) B.isinstance (by rfl) B.str bt_str (p_nm 0)))) (w_or1 (t_not (t_chain op_le op_le (q_int).p ((q_b1 c_lenB g_lenB (by rfl) B.len bt_len (p_nm 0))).p ((q_glob (n := 8) (by rfl) B.g_LONGEST_GRAIN)).p))))).t (ss_one (s_ret q_bl)) ss_nil)
      (ss_cons (s_for hp rfl (i_str (p_nm 0).val) (g_name 1 sc_is_grain.nd) (ss_one (s_if (t_niA (hu65 hr) (p_nm 1) ((q_globS (s := "abcdefghijklmnopqrstuvwxyz") (by rfl) B.g_LETTERS)).p) (ss_one (s_ret q_bl)) ss_nil)))
      (ss_one (s_ret q_bl)))), fun args Q E hl h => ?_⟩
  clear hl hr hG tk hp W EX H s outer A cdv f Df B
  obtain ⟨x, rfl, hg, h⟩ := h
  walk_at "nf"
  rcases hg with ⟨g1, g2, g3⟩ | rfl
  · have hz : x.length ≤ sizeLine := Nat.le_trans g2 (by decide)
    have e1 : decide ((1 : Int) ≤ x.length) = true := by rw [decide_eq_true_eq]; omega
    have e2 : decide ((x.length : Int) ≤ 8) = true := by rw [decide_eq_true_eq]; omega
    have e3 : decide (x ≠ "") = true := by
      rw [decide_eq_true_eq]; rintro rfl
      exact absurd g1 (by decide)
    rw [e3] at h
    refine ⟨true, rfl, !(decide ((1 : Int) ≤ x.length) && decide ((x.length : Int) ≤ 8)), fun _ => ⟨hz, decide ((x.length : Int) ≤ 8), fun _ => ⟨rfl, rfl⟩, rfl, rfl⟩, fun z => ?_, fun z => ?_⟩
    · rw [e1, e2] at z; cases z
    walk_at "nf"
    refine ⟨hz, ?_⟩
    refine .over x.cps.toList (fun c => .str ⟨#[c]⟩) rfl [1] (fun j vs => ∃ y, vs = [y]) ⟨[_], rfl, _, rfl⟩ ?_ ?_
    · rintro j c vs hj ⟨y, rfl⟩
      have hc := g3 c (List.mem_of_getElem? hj)
      refine ⟨c, rfl, fun z => ?_, fun z => ⟨[_], rfl, _, rfl⟩⟩
      have z2 : (!decide (c ∈ abcL)) = true := z
      rw [decide_eq_true hc] at z2; cases z2
    · rintro vs ⟨y, rfl⟩
      exact h
  · exact ⟨true, rfl, true, fun _ => ⟨by decide, true, fun z => (nomatch z), rfl, rfl⟩, fun _ => h, fun z => nomatch z⟩
theorem ok_is_mark (Df : DefAt K mg "is_mark" s_is_mark ["thing"]) (B : Bt mg) (C_are_between : Callee P w K mg base 3 "are_between" ["things", "least", "most"] [] areI) : Callee P w K mg base 4 "is_mark" ["thing"] [] markI := by
  refine callee_of Df sc_is_mark (by decide) (by decide) fun f cdv A outer s H EX W hr hG tk hp => ?_
  refine ⟨_, (ss_one (s_ret (q_and (q_isi ki_tup (by rfl) B.isinstance (by rfl) B.tuple bt_tuple (p_nm 0)) (q_and (q_eq (hu65 hr) ((q_b1 c_lenB g_lenB (by rfl) B.len bt_len (p_nm 0))).p (q_int).p) (q_one (q_callC C_are_between tk (hr.mono (by decide)) hG (by rfl) (a_cons (p_nm 0).val (a_cons q_int (a_cons (q_glob (n := 24) (by rfl) B.g_MOST_OF_MARK) a_nil))) [])))))), fun args Q E hl h => ?_⟩
  clear hl hr hG tk hp W EX H s outer A cdv f Df B C_are_between
  obtain ⟨m, rfl, h1, h2, h⟩ := h
  walk_at "nf"
  refine ⟨true, rfl, fun _ => ⟨.inl rfl, fun _ => ?_, fun z => nomatch z⟩, fun z => nomatch z⟩
  exact ⟨[m.1, m.2], 1, 24, rfl, by simp; omega, h⟩
theorem ok_is_place (Df : DefAt K mg "is_place" s_is_place ["thing"]) (B : Bt mg) (C_is_lie : Callee P w K mg base 1 "is_lie" ["thing"] [] lieI) (C_is_spot : Callee P w K mg base 3 "is_spot" ["thing"] [] spotI) (C_is_measure : Callee P w K mg base 3 "is_measure" ["thing"] [] measureI) (C_is_grain : Callee P w K mg base 1 "is_grain" ["thing"] [] grainE) : Callee P w K mg base 4 "is_place" ["thing"] [] placeI := by
  refine callee_of Df sc_is_place (by decide) (by decide) fun f cdv A outer s H EX W hr hG tk hp => ?_
  refine ⟨_, (ss_cons (s_if ((w_orM (t_not (t_val (q_isi ki_tup (by rfl) B.isinstance (by rfl) B.tuple bt_tuple (p_nm 0)))) (w_or1 (t_ne (hu65 hr) ((q_b1 c_lenB g_lenB (by rfl) B.len bt_len (p_nm 0))).p (q_int).p)))).t (ss_one (s_ret q_bl)) ss_nil)
      (ss_cons (s_if ((w_orM (t_not (t_val (q_callC C_is_spot tk (hr.mono (by decide)) hG (by rfl) (a_cons (q_ixA (hu65 hr) (p_nm 0) (q_int).p) a_nil) []))) (w_orM (t_not (t_val (q_callC C_is_measure tk (hr.mono (by decide)) hG (by rfl) (a_cons (q_ixA (hu65 hr) (p_nm 0) (q_int).p) a_nil) []))) (w_or1 (t_not (t_val (q_callC C_is_measure tk (hr.mono (by decide)) hG (by rfl) (a_cons (q_ixA (hu65 hr) (p_nm 0) (q_int).p) a_nil) []))))))).t (ss_one (s_ret q_bl)) ss_nil)
      (ss_cons (s_if ((w_andM (t_not (t_val (q_callC C_is_grain tk (hr.mono (by decide)) hG (by rfl) (a_cons (q_ixA (hu65 hr) (p_nm 0) (q_int).p) a_nil) []))) (w_and1 (t_not ((w_andM (t_val (q_isi ki_str (by rfl) B.isinstance (by rfl) B.str bt_str ((q_ixA (hu65 hr) (p_nm 0) (q_int).p)).p)) (w_and1 (t_eq (hu65 hr) ((q_ixA (hu65 hr) (p_nm 0) (q_int).p)).p (q_str).p)))).t)))).t (ss_one (s_ret q_bl)) ss_nil)
      (ss_one (s_ret (q_callC C_is_lie tk (hr.mono (by decide)) hG (by rfl) (a_cons (q_ixA (hu65 hr) (p_nm 0) (q_int).p) a_nil) [])))))), fun args Q E hl h => ?_⟩
  clear hl hr hG tk hp W EX H s outer A cdv f Df B C_is_lie C_is_spot C_is_measure C_is_grain
  obtain ⟨p, rfl, ⟨h1, h2, h3, h4, h5, h6⟩, h⟩ := h
  have h23 := h2
  have h33 := h3
  unfold M6 at h23 h33
  walk_at "nf"
  refine ⟨true, rfl, false, fun _ => ⟨.inl rfl, rfl, rfl⟩, fun z => (nomatch z), fun _ => ?_⟩
  walk_at "nf"
  refine ⟨_, at_int (by decide) rfl, p.x, rfl, h1, by omega, false, fun _ => ⟨_, at_int (by decide) rfl, p.w, rfl, h2, false, fun _ => ⟨_, at_int (by decide) rfl, p.d, rfl, h3, rfl, rfl⟩, rfl, rfl⟩, fun z => (nomatch z), fun _ => ?_⟩
  walk_at "nf"
  refine ⟨_, at_int (by decide) rfl, p.g, rfl, h4, ?_⟩
  refine ⟨!(decide (p.g = "")), fun z => ⟨_, at_int (by decide) rfl, true, rfl, decide (p.g = ""), fun _ => ⟨_, at_int (by decide) rfl, .inl rfl, rfl, rfl⟩, rfl, rfl⟩, fun z => ?_, fun _ => ?_⟩
  · exfalso
    have z : (!(decide (p.g ≠ "")) && !(decide (p.g = ""))) = true := z
    by_cases e : p.g = ""
    · rw [decide_eq_true e] at z; simp at z
    · rw [decide_eq_true (show p.g ≠ "" from e)] at z; simp at z
  exact ⟨_, at_int (by decide) rfl, p.l, rfl, h5, h⟩
theorem ok_is_course (Df : DefAt K mg "is_course" s_is_course ["thing"]) (B : Bt mg) (C_is_measure : Callee P w K mg base 3 "is_measure" ["thing"] [] measureI) (C_is_place : Callee P w K mg base 4 "is_place" ["thing"] [] placeI) : Callee P w K mg base 5 "is_course" ["thing"] [] courseI := by
  refine callee_of Df sc_is_course (by decide) (by decide) fun f cdv A outer s H EX W hr hG tk hp => ?_
  refine ⟨_, (ss_cons (s_if ((w_orM (t_not (t_val (q_isi ki_tup (by rfl) B.isinstance (by rfl) B.tuple bt_tuple (p_nm 0)))) (w_orM (t_ne (hu65 hr) ((q_b1 c_lenB g_lenB (by rfl) B.len bt_len (p_nm 0))).p (q_int).p) (w_or1 (t_not (t_val (q_callC C_is_measure tk (hr.mono (by decide)) hG (by rfl) (a_cons (q_ixA (hu65 hr) (p_nm 0) (q_int).p) a_nil) []))))))).t (ss_one (s_ret q_bl)) ss_nil)
      (ss_cons (s_if ((w_orM (t_not (t_val (q_isi ki_lst (by rfl) B.isinstance (by rfl) B.list bt_list ((q_ixA (hu65 hr) (p_nm 0) (q_int).p)).p))) (w_or1 (t_gt ((q_b1 c_lenB g_lenB (by rfl) B.len bt_len ((q_ixA (hu65 hr) (p_nm 0) (q_int).p)).p)).p ((q_glob (n := 24) (by rfl) B.g_MOST_PLACES)).p)))).t (ss_one (s_ret q_bl)) ss_nil)
      (ss_one (s_ret (q_b1 (cr_all rfl) g_all (by rfl) B.all bt_all ((q_lc (own := [("place", 1)]) rfl sc_is_course.nd (i_list (q_ixA (hu65 hr) (p_nm 0) (q_int).p)) (blkOk_by (by rfl)) (fun _ _ _ _ _ => (g_name 1 sc_is_course.nd)) (fun _ _ _ _ _ => ts_nil) (fun _ _ _ _ _ => (q_callC C_is_place takes0 (hr.mono (by decide)) hG (by rfl) (a_cons (p_nm 1).val a_nil) [])))).p))))), fun args Q E hl h => ?_⟩
  clear hl hr hG tk hp W EX H s outer A cdv f Df B C_is_measure C_is_place
  obtain ⟨c, rfl, ⟨h1, h2, h3, h4⟩, h⟩ := h
  walk_at "nf"
  refine ⟨true, rfl, false, fun _ => ⟨.inl rfl, false, fun _ => ⟨_, at_int (by decide) rfl, c.h, rfl, h1, rfl, rfl⟩, rfl, rfl⟩, fun z => (nomatch z), fun _ => ?_⟩
  walk_at "nf"
  refine ⟨_, at_int (by decide) rfl, true, rfl, decide ((24 : Int) < (((c.ps.map plD).length : Nat) : Int)), fun _ => ⟨_, at_int (by decide) rfl, rfl, rfl⟩, fun z => ?_, fun _ => ?_⟩
  · have z : (false || decide ((24 : Int) < (((c.ps.map plD).length : Nat) : Int))) = true := z
    rw [List.length_map, Bool.false_or, decide_eq_true_eq] at z; omega
  walk_at "nf"
  refine ⟨_, at_int (by decide) rfl, ?_⟩
  refine .each c.ps plD rfl (fun _ => .bl true) (fun j a hj => ⟨fun _ => ?_, fun z => nomatch z⟩) ?_
  · exact ⟨a, rfl, h2 a (List.mem_of_getElem? hj), all_one hj, rfl⟩
  refine ⟨c.ps.map fun _ => true, by rw [List.map_map]; rfl, ?_⟩
  rw [show ((c.ps.map fun _ => true).all id) = true by simp]
  exact h
theorem ok_are_courses (Df : DefAt K mg "are_courses" s_are_courses ["thing"]) (B : Bt mg) (C_is_course : Callee P w K mg base 5 "is_course" ["thing"] [] courseI) : Callee P w K mg base 6 "are_courses" ["thing"] [] coursesI := by
  refine callee_of Df sc_are_courses (by decide) (by decide) fun f cdv A outer s H EX W hr hG tk hp => ?_
  refine ⟨_, (ss_cons (s_if ((w_orM (t_not (t_val (q_isi ki_lst (by rfl) B.isinstance (by rfl) B.list bt_list (p_nm 0)))) (w_or1 (t_not (t_chain op_le op_le (q_int).p ((q_b1 c_lenB g_lenB (by rfl) B.len bt_len (p_nm 0))).p ((q_glob (n := 6) (by rfl) B.g_MOST_COURSES)).p))))).t (ss_one (s_ret q_bl)) ss_nil)
      (ss_one (s_ret (q_b1 (cr_all rfl) g_all (by rfl) B.all bt_all ((q_lc (own := [("course", 1)]) rfl sc_are_courses.nd (i_list (p_nm 0).val) (blkOk_by (by rfl)) (fun _ _ _ _ _ => (g_name 1 sc_are_courses.nd)) (fun _ _ _ _ _ => ts_nil) (fun _ _ _ _ _ => (q_callC C_is_course takes0 (hr.mono (by decide)) hG (by rfl) (a_cons (p_nm 1).val a_nil) [])))).p)))), fun args Q E hl h => ?_⟩
  clear hl hr hG tk hp W EX H s outer A cdv f Df B C_is_course
  obtain ⟨C, rfl, ⟨h1, h2, h3, h4⟩, h⟩ := h
  walk_at "nf"
  refine ⟨true, rfl, !(decide ((1 : Int) ≤ (((C.map coD).length : Nat) : Int)) && decide ((((C.map coD).length : Nat) : Int) ≤ 6)), fun _ => ⟨decide ((((C.map coD).length : Nat) : Int) ≤ 6), fun _ => ⟨rfl, rfl⟩, rfl, rfl⟩, fun z => ?_, fun _ => ?_⟩
  · have z : (false || !(decide ((1 : Int) ≤ (((C.map coD).length : Nat) : Int)) && decide ((((C.map coD).length : Nat) : Int) ≤ 6))) = true := z
    rw [List.length_map] at z
    simp at z; omega
  walk_at "nf"
  refine .each C coD rfl (fun _ => .bl true) (fun j a hj => ⟨fun _ => ?_, fun z => nomatch z⟩) ?_
  · exact ⟨a, rfl, h2 a (List.mem_of_getElem? hj), all_one hj, rfl⟩
  refine ⟨C.map fun _ => true, by rw [List.map_map]; rfl, ?_⟩
  rw [show ((C.map fun _ => true).all id) = true by simp]
  exact h
theorem ok_are_marks (Df : DefAt K mg "are_marks" s_are_marks ["thing"]) (B : Bt mg) (C_is_mark : Callee P w K mg base 4 "is_mark" ["thing"] [] markI) : Callee P w K mg base 5 "are_marks" ["thing"] [] marksI := by
  refine callee_of Df sc_are_marks (by decide) (by decide) fun f cdv A outer s H EX W hr hG tk hp => ?_
  refine ⟨_, (ss_cons (s_if ((w_orM (t_not (t_val (q_isi ki_lst (by rfl) B.isinstance (by rfl) B.list bt_list (p_nm 0)))) (w_or1 (t_gt ((q_b1 c_lenB g_lenB (by rfl) B.len bt_len (p_nm 0))).p ((q_glob (n := 24) (by rfl) B.g_MOST_PLACES)).p)))).t (ss_one (s_ret q_bl)) ss_nil)
      (ss_one (s_ret (q_b1 (cr_all rfl) g_all (by rfl) B.all bt_all ((q_lc (own := [("mark", 1)]) rfl sc_are_marks.nd (i_list (p_nm 0).val) (blkOk_by (by rfl)) (fun _ _ _ _ _ => (g_name 1 sc_are_marks.nd)) (fun _ _ _ _ _ => ts_nil) (fun _ _ _ _ _ => (q_callC C_is_mark takes0 (hr.mono (by decide)) hG (by rfl) (a_cons (p_nm 1).val a_nil) [])))).p)))), fun args Q E hl h => ?_⟩
  clear hl hr hG tk hp W EX H s outer A cdv f Df B C_is_mark
  obtain ⟨ms, rfl, h1, h2, h⟩ := h
  walk_at "nf"
  refine ⟨true, rfl, decide ((24 : Int) < (((ms.map mkD).length : Nat) : Int)), fun _ => ⟨rfl, rfl⟩, fun z => ?_, fun _ => ?_⟩
  · have z : (false || decide ((24 : Int) < (((ms.map mkD).length : Nat) : Int))) = true := z
    rw [List.length_map, Bool.false_or, decide_eq_true_eq] at z; omega
  walk_at "nf"
  refine .each ms mkD rfl (fun _ => .bl true) (fun j a hj => ⟨fun _ => ?_, fun z => nomatch z⟩) ?_
  · obtain ⟨a1, a2⟩ := h2 a (List.mem_of_getElem? hj)
    exact ⟨a, rfl, a1, a2, all_one hj, rfl⟩
  refine ⟨ms.map fun _ => true, by rw [List.map_map]; rfl, ?_⟩
  rw [show ((ms.map fun _ => true).all id) = true by simp]
  exact h
theorem ok_need_order (Df : DefAt K mg "need_order" s_need_order ["course", "places"]) (B : Bt mg) : Callee P w K mg base 1 "need_order" ["course", "places"] [] orderI := by
  refine callee_of Df sc_need_order (by decide) (by decide) fun f cdv A outer s H EX W hr hG tk hp => ?_
  refine ⟨_, (ss_cons (s_set 2 q_int sc_need_order.nd)
      (ss_one (s_for hp rfl (i_enum (by rfl) B.enumerate (p_nm 1).val) (g_tup (n := 2) rfl (gs_cons (g_name 3 sc_need_order.nd) (gs_cons (g_name 4 sc_need_order.nd) gs_nil))) (ss_cons (s_if ((w_orM (t_lt ((q_ixA (hu65 hr) (p_nm 4) (q_int).p)).p (p_nm 2)) (w_or1 (t_gt ((q_add ((q_ixA (hu65 hr) (p_nm 4) (q_int).p)).p ((q_ixA (hu65 hr) (p_nm 4) (q_int).p)).p)).p ((q_glob (n := 1000000) (by rfl) B.g_FAR)).p)))).t (ss_one s_never) ss_nil)
      (ss_one (s_set 2 ((q_add ((q_ixA (hu65 hr) (p_nm 4) (q_int).p)).p ((q_ixA (hu65 hr) (p_nm 4) (q_int).p)).p)).fz sc_need_order.nd)))))), fun args Q E hl h => ?_⟩
  clear hl hr hG tk hp W EX H s outer A cdv f Df B
  obtain ⟨k, ps, rfl, h1, h2, h⟩ := h
  walk_at "nf"
  refine .fr [2, 3, 4] (fun j vs => ∃ (e : Int) (x y : Option T), vs = [some (.fz (.int e)), x, y] ∧ inRow e (ps.drop j)) ⟨[_, _, _], rfl, 0, _, _, rfl, h1⟩ ?_ ?_
  · rintro j d vs hd ⟨e, x, y, rfl, hr⟩
    obtain ⟨c, hc, rfl⟩ := enumD_get hd
    rw [List.getElem?_map] at hc
    obtain ⟨p, hp, rfl⟩ := Option.map_eq_some_iff.mp hc
    have hl := (List.getElem?_eq_some_iff.mp hp).1
    rw [List.drop_eq_getElem_cons hl, (List.getElem?_eq_some_iff.mp hp).2] at hr
    have hp2 := h2 p (List.mem_of_getElem? hp)
    refine ⟨rfl, ?_⟩
    walk_at "nf"
    refine ⟨_, at_int (by decide) rfl, decide ((1000000 : Int) < p.x + p.w), fun _ => ⟨_, at_int (by decide) rfl, _, at_int (by decide) rfl, rfl, rfl⟩, fun z => ?_, fun _ => ?_⟩
    · have z : (decide (p.x < e) || decide ((1000000 : Int) < p.x + p.w)) = true := z
      rw [decide_eq_false (show ¬ p.x < e by have := hr.1; omega), decide_eq_false (by omega)] at z; cases z
    refine ⟨_, at_int (by decide) rfl, _, at_int (by decide) rfl, ?_⟩
    exact ⟨[_, _, _], rfl, p.x + p.w, _, _, rfl, hr.2⟩
  · rintro vs ⟨e, x, y, rfl, _⟩
    exact h
theorem ok_spans_share (Df : DefAt K mg "spans_share" s_spans_share ["place", "other"]) : Callee P w K mg base 1 "spans_share" ["place", "other"] [] shareS := by
  refine callee_of Df sc_spans_share (by decide) (by decide) fun f cdv A outer s H EX W hr hG tk hp => ?_
  refine ⟨_, (ss_one (s_ret (q_and (q_lt ((q_ixA (hu65 hr) (p_nm 0) (q_int).p)).p ((q_add ((q_ixA (hu65 hr) (p_nm 1) (q_int).p)).p ((q_ixA (hu65 hr) (p_nm 1) (q_int).p)).p)).p) (q_one (q_lt ((q_ixA (hu65 hr) (p_nm 1) (q_int).p)).p ((q_add ((q_ixA (hu65 hr) (p_nm 0) (q_int).p)).p ((q_ixA (hu65 hr) (p_nm 0) (q_int).p)).p)).p))))), fun args Q E hl h => ?_⟩
  clear hl hr hG tk hp W EX H s outer A cdv f Df
  obtain ⟨p, q, rfl, h⟩ := h
  walk_at "nf"
  refine ⟨_, at_int (by decide) rfl, _, at_int (by decide) rfl, _, at_int (by decide) rfl, fun z => ?_, fun z => ?_⟩
  · refine ⟨_, at_int (by decide) rfl, _, at_int (by decide) rfl, _, at_int (by decide) rfl, ?_⟩
    unfold shB at h
    have z : decide (p.x < q.x + q.w) = true := z
    rw [z, Bool.true_and] at h
    exact h
  · unfold shB at h
    have z : decide (p.x < q.x + q.w) = false := z
    rw [z, Bool.false_and] at h
    exact h
theorem ok_Wall_init (Df : DefK K mg "Wall" (ca "Wall") "Wall.__init__" s_Wall_init ["self", "courses"]) (B : Bt mg) (KC_Wall : Cls K (ca "Wall")) (KN_Wall : ∀ x, x ∈ (["kept_courses"] : List Str) → NoAttr K (ca "Wall") x) (C_Wall_marks : CalleeM P w K mg base 1 (ca "Wall") "marks" ["self"] [] (marksW ca)) (C_are_courses : Callee P w K mg base 6 "are_courses" ["thing"] [] coursesI) (C_need_order : Callee P w K mg base 1 "need_order" ["course", "places"] [] orderI) (C_Wall_beneath : CalleeM P w K mg base 7 (ca "Wall") "beneath" ["self", "mark"] [] (beneathW ca)) : CalleeK P w K mg base 8 "Wall" (ca "Wall") ["self", "courses"] (initW ca) := by
  refine calleeK_of Df sc_Wall_init (by decide) (by decide) fun f cdv A outer s H EX W hr hG tk hp => ?_
  refine ⟨_, (ss_cons (s_if (t_not (t_val (q_callC C_are_courses tk (hr.mono (by decide)) hG (by rfl) (a_cons (p_nm 1).val a_nil) []))) (ss_one s_never) ss_nil)
      (ss_cons (s_for hp rfl (i_enum (by rfl) B.enumerate (p_nm 1).val) (g_tup (n := 2) rfl (gs_cons (g_name 2 sc_Wall_init.nd) (gs_cons (g_name 3 sc_Wall_init.nd) gs_nil))) (ss_one (s_expr (q_callC C_need_order tk (hr.mono (by decide)) hG (by rfl) (a_cons (q_add (p_nm 2) (q_int).p) (a_cons (q_ixA (hu65 hr) (p_nm 3) (q_int).p) a_nil)) []))))
      (ss_cons (s_if (t_gt ((q_b1 (cr_sum rfl) g_sum (by rfl) B.sum bt_sum ((q_lc (own := [("course", 3)]) rfl sc_Wall_init.nd (i_list (p_nm 1).val) (blkOk_by (by rfl)) (fun _ _ _ _ _ => (g_name 3 sc_Wall_init.nd)) (fun _ _ _ _ _ => ts_nil) (fun _ _ _ _ _ => (q_b1 c_lenB g_lenB (by rfl) B.len bt_len ((q_ixA (hu65 hr) (p_nm 3) (q_int).p)).p)))).p)).p ((q_glob (n := 24) (by rfl) B.g_MOST_PLACES)).p) (ss_one s_never) ss_nil)
      (ss_cons (s_fld 0 KC_Wall (KN_Wall _ (by simp)) ((q_lc (own := [("course", 3)]) rfl sc_Wall_init.nd (i_list (p_nm 1).val) (blkOk_by (by rfl)) (fun _ _ _ _ _ => (g_name 3 sc_Wall_init.nd)) (fun _ _ _ _ _ => ts_nil) (fun _ _ _ _ _ => (q_tup (a_cons (q_ixA (hu65 hr) (p_nm 3) (q_int).p) (a_cons ((q_ty1 call_list_of g_list (by rfl) B.list bt_list ((q_ixA (hu65 hr) (p_nm 3) (q_int).p)).p)).fz a_nil)))))).fz)
      (ss_one (s_for hp rfl (i_list (q_meth0 C_Wall_marks KC_Wall tk (hr.mono (by decide)) hG (q_fzn 0))) (g_name 4 sc_Wall_init.nd) (ss_one (s_if ((w_andM (t_gt ((q_ixA (hu65 hr) (p_nm 4) (q_int).p)).p (q_int).p) (w_and1 (t_eq (hu65 hr) ((q_meth C_Wall_beneath KC_Wall tk (hr.mono (by decide)) hG (q_fzn 0) (a_cons (p_nm 4).val a_nil) [])).p ((q_lst a_nil)).p)))).t (ss_one s_never) ss_nil)))))))), fun args Q E hl h => ?_⟩
  clear hl hr hG tk hp W EX H s outer A cdv f Df B KC_Wall KN_Wall C_Wall_marks C_are_courses C_need_order C_Wall_beneath
  obtain ⟨C, rfl, hC, h⟩ := h
  obtain ⟨h1, h2, h3, h4⟩ := hC
  have hC : wallOk C := ⟨h1, h2, h3, h4⟩
  walk_at "nf"
  refine ⟨C, rfl, hC, fun z => (nomatch z), fun _ => ?_⟩
  walk_at "nf"
  refine .fr [2, 3] (fun j vs => ∃ x y, vs = [x, y]) ⟨[_, _], rfl, _, _, rfl⟩ ?_ ?_
  · rintro j d vs hd ⟨x, y, rfl⟩
    obtain ⟨e, he, rfl⟩ := enumD_get hd
    rw [List.getElem?_map] at he
    obtain ⟨c, hc, rfl⟩ := Option.map_eq_some_iff.mp he
    have hco := h2 c (List.mem_of_getElem? hc)
    refine ⟨rfl, ?_⟩
    walk_at "nf"
    refine ⟨_, at_int (by decide) rfl, (j : Int) + 1, c.ps, rfl, hco.2.2.1, fun p hp => (hco.2.1 p hp).2.2.2.2.2, ?_⟩
    exact ⟨[_, _], rfl, _, _, rfl⟩
  rintro vs ⟨x, y, rfl⟩
  walk_at "nf"
  refine .each C coD rfl (fun c => .int ((c.ps.map plD).length : Nat)) (fun j a hj => ⟨fun _ => ⟨_, at_int (by decide) rfl, all_one hj, rfl⟩, fun z => nomatch z⟩) ?_
  have em : (C.map fun c => (((c.ps.map plD).length : Nat) : Int)).sum = ((totF C : Nat) : Int) := by unfold totF; simp [tot_cast]
  refine ⟨C.map fun c => (((c.ps.map plD).length : Nat) : Int), by rw [List.map_map]; rfl, ?_⟩
  rw [em]
  refine ⟨fun z => ?_, fun _ => ?_⟩
  · exfalso
    have z : decide ((24 : Int) < ((totF C : Nat) : Int)) = true := z
    rw [decide_eq_true_eq] at z; omega
  walk_at "nf"
  refine .each C coD rfl coD (fun j a hj => ⟨fun _ => ⟨_, at_int (by decide) rfl, _, at_int (by decide) rfl, all_one hj, rfl⟩, fun z => nomatch z⟩) ?_
  refine ⟨rfl, show (0 : Nat) < 1000 by decide, ?_⟩
  walk_at "nf"
  refine ⟨⟨rfl, rfl⟩, C, rfl, by omega, ?_⟩
  refine .over (mksF C 1) mkD rfl [4] (fun j vs => ∃ y, vs = [y]) ⟨[_], rfl, _, rfl⟩ ?_ ?_
  · rintro j m vs hj ⟨y, rfl⟩
    have hm := List.mem_of_getElem? hj
    walk_at "nf"
    refine ⟨_, at_int (by decide) rfl, eqD (mksD (bsF C m (m.1 - 1))) (.nd .lst []), fun z => ⟨⟨rfl, rfl⟩, C, m, rfl, hC, hm, .inr ⟨pl_mks, rfl⟩, rfl, rfl⟩, fun z => ?_, fun _ => ⟨[_], rfl, _, rfl⟩⟩
    exfalso
    have z : (decide ((1 : Int) < m.1) && eqD (mksD (bsF C m (m.1 - 1))) (.nd .lst [])) = true := z
    rw [Bool.and_eq_true, decide_eq_true_eq, eq_nil, List.isEmpty_iff, List.map_eq_nil_iff] at z
    exact h4 m hm z.1 z.2
  · rintro vs ⟨y, rfl⟩
    exact h
theorem ok_Wall_marks (Df : DefM K (ca "Wall") "marks" "Wall.marks" s_Wall_marks ["self"]) (B : Bt mg) (KC_Wall : Cls K (ca "Wall")) (KN_Wall : ∀ x, x ∈ (["kept_courses"] : List Str) → NoAttr K (ca "Wall") x) : CalleeM P w K mg base 1 (ca "Wall") "marks" ["self"] [] (marksW ca) := by
  refine calleeM_of Df sc_Wall_marks (by decide) (by decide) fun f cdv A outer s H EX W hr hG tk hp => ?_
  refine ⟨_, (ss_cons (s_set 1 ((q_lst a_nil)).fz sc_Wall_marks.nd)
      (ss_cons (s_for hp rfl (i_enum (by rfl) B.enumerate ((q_fld KC_Wall (KN_Wall _ (by simp)) (p_nm 0))).fz) (g_tup (n := 2) rfl (gs_cons (g_name 2 sc_Wall_marks.nd) (gs_cons (g_name 3 sc_Wall_marks.nd) gs_nil))) (ss_one (s_set 1 ((q_add (p_nm 1) ((q_lc (own := [("at", 4)]) rfl sc_Wall_marks.nd (i_rng (by rfl) B.range (q_b1 c_lenB g_lenB (by rfl) B.len bt_len ((q_ixA (hu65 hr) (p_nm 3) (q_int).p)).p)) (blkOk_by (by rfl)) (fun _ _ _ _ _ => (g_name 4 sc_Wall_marks.nd)) (fun _ _ _ _ _ => ts_nil) (fun _ _ _ _ _ => (q_tup (a_cons (q_add (p_nm 2) (q_int).p) (a_cons (q_add (p_nm 4) (q_int).p) a_nil)))))).p)).fz sc_Wall_marks.nd)))
      (ss_one (s_ret (p_nm 1).val)))), fun args Q E hl h => ?_⟩
  clear hl hr hG tk hp W EX H s outer A cdv f Df B KC_Wall KN_Wall
  obtain ⟨C, rfl, hC, h⟩ := h
  walk_at "nf"
  refine ⟨rfl, _, rfl, ?_⟩
  refine .fr [1, 2, 3, 4] (fun j vs => ∃ x y z, vs = [some (.fz (mksD (mksF (C.take j) 1))), x, y, z]) ⟨[_, _, _, _], rfl, _, _, _, rfl⟩ ?_ ?_
  · rintro j d vs hd ⟨x, y, z, rfl⟩
    obtain ⟨e, he, rfl⟩ := enumD_get hd
    rw [List.getElem?_map] at he
    obtain ⟨c, hc, rfl⟩ := Option.map_eq_some_iff.mp he
    have hle := tot_le hc
    have hml := mks_len (C := C.take j) (k := 1)
    refine ⟨rfl, ?_⟩
    walk_at "nf"
    refine ⟨_, at_int (by decide) rfl, szI (by rw [List.length_map]; omega), by omega, ?_⟩
    refine .each (List.range c.ps.length) (fun k => .int (k : Nat)) (by rw [List.length_map]; unfold rngD; simp) (fun i => mkD ((j : Int) + 1, (i : Int) + 1)) (fun i a hi => ⟨fun _ => ⟨all_one hi, rfl⟩, fun z => nomatch z⟩) ?_
    refine ⟨szN (by show (List.map mkD _).length + (List.map _ (List.range _)).length ≤ _; rw [List.length_map, List.length_map, List.length_range]; omega), ?_⟩
    exact ⟨[_, _, _, _], rfl, _, _, _, by rw [mks_snoc hc, mksD, List.map_append, rowMk, List.map_map, Int.add_comm 1 (j : Int)]; rfl⟩
  · rintro vs ⟨x, y, z, rfl⟩
    rw [enumD_len, List.length_map, List.take_length]
    exact h
theorem ok_Wall_courses (Df : DefM K (ca "Wall") "courses" "Wall.courses" s_Wall_courses ["self"]) (B : Bt mg) (KC_Wall : Cls K (ca "Wall")) (KN_Wall : ∀ x, x ∈ (["kept_courses"] : List Str) → NoAttr K (ca "Wall") x) : CalleeM P w K mg base 1 (ca "Wall") "courses" ["self"] [] (coursesW ca) := by
  refine calleeM_of Df sc_Wall_courses (by decide) (by decide) fun f cdv A outer s H EX W hr hG tk hp => ?_
  refine ⟨_, (ss_one (s_ret ((q_lc (own := [("course", 1)]) rfl sc_Wall_courses.nd (i_list ((q_fld KC_Wall (KN_Wall _ (by simp)) (p_nm 0))).fz) (blkOk_by (by rfl)) (fun _ _ _ _ _ => (g_name 1 sc_Wall_courses.nd)) (fun _ _ _ _ _ => ts_nil) (fun _ _ _ _ _ => (q_tup (a_cons (q_ixA (hu65 hr) (p_nm 1) (q_int).p) (a_cons ((q_ty1 call_list_of g_list (by rfl) B.list bt_list ((q_ixA (hu65 hr) (p_nm 1) (q_int).p)).p)).fz a_nil)))))).fz)), fun args Q E hl h => ?_⟩
  clear hl hr hG tk hp W EX H s outer A cdv f Df B KC_Wall KN_Wall
  obtain ⟨C, rfl, h⟩ := h
  walk_at "nf"
  refine ⟨rfl, _, rfl, ?_⟩
  refine .each C coD rfl coD (fun j a hj => ⟨fun _ => ⟨_, at_int (by decide) rfl, _, at_int (by decide) rfl, all_one hj, rfl⟩, fun z => nomatch z⟩) ?_
  exact h
theorem ok_Wall_places_in (Df : DefM K (ca "Wall") "places_in" "Wall.places_in" s_Wall_places_in ["self", "course"]) (B : Bt mg) (KC_Wall : Cls K (ca "Wall")) (KN_Wall : ∀ x, x ∈ (["kept_courses"] : List Str) → NoAttr K (ca "Wall") x) : CalleeM P w K mg base 1 (ca "Wall") "places_in" ["self", "course"] [] (placesW ca) := by
  refine calleeM_of Df sc_Wall_places_in (by decide) (by decide) fun f cdv A outer s H EX W hr hG tk hp => ?_
  refine ⟨_, (ss_cons (s_if (t_not (t_chain op_le op_le (q_int).p (p_nm 1) ((q_b1 c_lenB g_lenB (by rfl) B.len bt_len ((q_fld KC_Wall (KN_Wall _ (by simp)) (p_nm 0))).p)).p)) (ss_one (s_ret ((q_lst a_nil)).fz)) ss_nil)
      (ss_one (s_ret (q_ixA (hu65 hr) ((q_ixA (hu65 hr) ((q_fld KC_Wall (KN_Wall _ (by simp)) (p_nm 0))).p ((q_sub (p_nm 1) (q_int).p)).p)).p (q_int).p)))), fun args Q E hl h => ?_⟩
  clear hl hr hG tk hp W EX H s outer A cdv f Df B KC_Wall KN_Wall
  obtain ⟨C, k, rfl, h⟩ := h
  walk_at "nf"
  refine ⟨decide (k ≤ (((C.map coD).length : Nat) : Int)), fun _ => ⟨rfl, _, rfl, rfl, rfl⟩, fun z => ?_, fun z => ?_⟩
  · have z : (!(decide (1 ≤ k) && decide (k ≤ (((C.map coD).length : Nat) : Int)))) = true := z
    rw [List.length_map] at z
    rw [psIn_no (by simp at z; omega)] at h
    exact h
  · have z : (!(decide (1 ≤ k) && decide (k ≤ (((C.map coD).length : Nat) : Int)))) = false := z
    rw [List.length_map] at z
    simp at z
    obtain ⟨c, hc⟩ : ∃ c, C[(k - 1).toNat]? = some c := ⟨_, List.getElem?_eq_getElem (by omega)⟩
    rw [psIn_at hc (by omega)] at h
    exact ⟨rfl, _, rfl, coD c, at_int (by omega) (by rw [List.getElem?_map, hc]; rfl), _, at_int (by decide) rfl, h⟩
theorem ok_Wall_place_kept (Df : DefM K (ca "Wall") "place_kept" "Wall.place_kept" s_Wall_place_kept ["self", "mark"]) (B : Bt mg) (KC_Wall : Cls K (ca "Wall")) (KN_Wall : ∀ x, x ∈ (["kept_courses"] : List Str) → NoAttr K (ca "Wall") x) (C_Wall_places_in : CalleeM P w K mg base 1 (ca "Wall") "places_in" ["self", "course"] [] (placesW ca)) (C_is_mark : Callee P w K mg base 4 "is_mark" ["thing"] [] markI) : CalleeM P w K mg base 5 (ca "Wall") "place_kept" ["self", "mark"] [] (keptW ca) := by
  refine calleeM_of Df sc_Wall_place_kept (by decide) (by decide) fun f cdv A outer s H EX W hr hG tk hp => ?_
  refine ⟨_, (ss_cons (s_if (t_not (t_val (q_callC C_is_mark tk (hr.mono (by decide)) hG (by rfl) (a_cons (p_nm 1).val a_nil) []))) (ss_one s_never) ss_nil)
      (ss_cons (s_set 2 (q_meth C_Wall_places_in KC_Wall tk (hr.mono (by decide)) hG (p_nm 0).val (a_cons (q_ixA (hu65 hr) (p_nm 1) (q_int).p) a_nil) []) sc_Wall_place_kept.nd)
      (ss_cons (s_if (t_gt ((q_ixA (hu65 hr) (p_nm 1) (q_int).p)).p ((q_b1 c_lenB g_lenB (by rfl) B.len bt_len (p_nm 2))).p) (ss_one s_never) ss_nil)
      (ss_one (s_ret (q_ixA (hu65 hr) (p_nm 2) ((q_sub ((q_ixA (hu65 hr) (p_nm 1) (q_int).p)).p (q_int).p)).p)))))), fun args Q E hl h => ?_⟩
  clear hl hr hG tk hp W EX H s outer A cdv f Df B KC_Wall KN_Wall C_Wall_places_in C_is_mark
  obtain ⟨C, m, p, rfl, hC, hm, hp, h⟩ := h
  have hb := wall_mark hC hm
  obtain ⟨i, j, c, p', hi, hj, hme, e1, e2⟩ := mks_at hm
  rw [hp] at e2
  cases e2
  have hjl := (List.getElem?_eq_some_iff.mp hj).1
  have hm1 : m.1 = (i : Int) + 1 := by rw [hme]
  have hm2 : m.2 = (j : Int) + 1 := by rw [hme]
  walk_at "nf"
  refine ⟨m, rfl, by omega, by omega, fun z => (nomatch z), fun _ => ?_⟩
  walk_at "nf"
  refine ⟨⟨rfl, rfl⟩, _, at_int (by decide) rfl, C, m.1, rfl, ?_⟩
  rw [psIn_at hi hm1]
  walk_at "nf"
  refine ⟨_, at_int (by decide) rfl, fun z => ?_, fun _ => ?_⟩
  · exfalso
    have z : decide ((((c.ps.map plD).length : Nat) : Int) < m.2) = true := z
    rw [decide_eq_true_eq, List.length_map] at z; omega
  exact ⟨_, at_int (by decide) rfl, plD p, at_int (by omega) (by rw [show (m.2 - 1).toNat = j by omega, List.getElem?_map, hj]; rfl), h⟩
theorem ok_Wall_sharing (Df : DefM K (ca "Wall") "sharing" "Wall.sharing" s_Wall_sharing ["self", "mark", "course"]) (B : Bt mg) (KC_Wall : Cls K (ca "Wall")) (KN_Wall : ∀ x, x ∈ (["kept_courses"] : List Str) → NoAttr K (ca "Wall") x) (C_Wall_place_kept : CalleeM P w K mg base 5 (ca "Wall") "place_kept" ["self", "mark"] [] (keptW ca)) (C_spans_share : Callee P w K mg base 1 "spans_share" ["place", "other"] [] shareS) (C_Wall_places_in : CalleeM P w K mg base 1 (ca "Wall") "places_in" ["self", "course"] [] (placesW ca)) : CalleeM P w K mg base 6 (ca "Wall") "sharing" ["self", "mark", "course"] [] (sharingW ca) := by
  refine calleeM_of Df sc_Wall_sharing (by decide) (by decide) fun f cdv A outer s H EX W hr hG tk hp => ?_
  refine ⟨_, (ss_cons (s_set 3 (q_meth C_Wall_place_kept KC_Wall tk (hr.mono (by decide)) hG (p_nm 0).val (a_cons (p_nm 1).val a_nil) []) sc_Wall_sharing.nd)
      (ss_one (s_ret ((q_lc (own := [("k", 4), ("other", 5)]) rfl sc_Wall_sharing.nd (i_enum (by rfl) B.enumerate (q_meth C_Wall_places_in KC_Wall tk (hr.mono (by decide)) hG (p_nm 0).val (a_cons (p_nm 2).val a_nil) [])) (blkOk_by (by rfl)) (fun _ _ _ _ _ => (g_tup (n := 2) rfl (gs_cons (g_name 4 sc_Wall_sharing.nd) (gs_cons (g_name 5 sc_Wall_sharing.nd) gs_nil)))) (fun _ _ _ _ _ => (ts_one (t_val (q_callC C_spans_share takes0 (hr.mono (by decide)) hG (by rfl) (a_cons (p_nm 3).val (a_cons (p_nm 5).val a_nil)) [])))) (fun _ _ _ _ _ => (q_tup (a_cons (p_nm 2).val (a_cons (q_add (p_nm 4) (q_int).p) a_nil)))))).fz))), fun args Q E hl h => ?_⟩
  clear hl hr hG tk hp W EX H s outer A cdv f Df B KC_Wall KN_Wall C_Wall_place_kept C_spans_share C_Wall_places_in
  obtain ⟨C, m, k, rfl, hC, hm, h⟩ := h
  obtain ⟨i, j, c, p, hi, hj, hme, e1, e2⟩ := mks_at hm
  unfold bsF at h
  rw [e2] at h
  walk_at "nf"
  refine ⟨⟨rfl, rfl⟩, C, m, p, rfl, hC, hm, e2, ?_⟩
  walk_at "nf"
  refine ⟨⟨rfl, rfl⟩, C, k, rfl, ?_⟩
  refine .over (List.range (psIn C k).length) (fun j => .nd .tup [.int (j : Nat), atP (psIn C k) j]) enum_ps (fun j => match (psIn C k)[j]? with | some q => shB p q | none => false) (fun j => mkD (k, ((j : Nat) : Int) + 1)) (fun j i hj => ?_) ?_
  · have hi := List.mem_range.mp (List.mem_of_getElem? hj)
    have hq := List.getElem?_eq_getElem hi
    refine ⟨rfl, ?_⟩
    have ea : atP (psIn C k) i = plD ((psIn C k)[i]) := by unfold atP; rw [hq]
    rw [ea]
    exact ⟨p, _, rfl, fun z => ⟨over_yes hj (by rw [hq]; exact z), rfl⟩, fun z => ⟨over_no hj (by simp only [hq]; exact z), rfl⟩⟩
  unfold shF at h
  first | rw [mksD, List.map_map] at h | rw [List.map_map] at h
  exact h
theorem ok_Wall_beneath (Df : DefM K (ca "Wall") "beneath" "Wall.beneath" s_Wall_beneath ["self", "mark"]) (KC_Wall : Cls K (ca "Wall")) (KN_Wall : ∀ x, x ∈ (["kept_courses"] : List Str) → NoAttr K (ca "Wall") x) (C_Wall_place_kept : CalleeM P w K mg base 5 (ca "Wall") "place_kept" ["self", "mark"] [] (keptW ca)) (C_Wall_sharing : CalleeM P w K mg base 6 (ca "Wall") "sharing" ["self", "mark", "course"] [] (sharingW ca)) : CalleeM P w K mg base 7 (ca "Wall") "beneath" ["self", "mark"] [] (beneathW ca) := by
  refine calleeM_of Df sc_Wall_beneath (by decide) (by decide) fun f cdv A outer s H EX W hr hG tk hp => ?_
  refine ⟨_, (ss_cons (s_expr (q_meth C_Wall_place_kept KC_Wall tk (hr.mono (by decide)) hG (p_nm 0).val (a_cons (p_nm 1).val a_nil) []))
      (ss_one (s_ret (q_meth C_Wall_sharing KC_Wall tk (hr.mono (by decide)) hG (p_nm 0).val (a_cons (p_nm 1).val (a_cons (q_sub ((q_ixA (hu65 hr) (p_nm 1) (q_int).p)).p (q_int).p) a_nil)) [])))), fun args Q E hl h => ?_⟩
  clear hl hr hG tk hp W EX H s outer A cdv f Df KC_Wall KN_Wall C_Wall_place_kept C_Wall_sharing
  obtain ⟨C, m, rfl, hC, hm, h⟩ := h
  obtain ⟨i, j, c, p, hi, hj, hme, e1, e2⟩ := mks_at hm
  walk_at "nf"
  refine ⟨⟨rfl, rfl⟩, C, m, p, rfl, hC, hm, e2, ?_⟩
  walk_at "nf"
  refine ⟨⟨rfl, rfl⟩, _, at_int (by decide) rfl, C, m, m.1 - 1, rfl, hC, hm, h⟩
theorem ok_Wall_upon (Df : DefM K (ca "Wall") "upon" "Wall.upon" s_Wall_upon ["self", "mark"]) (KC_Wall : Cls K (ca "Wall")) (KN_Wall : ∀ x, x ∈ (["kept_courses"] : List Str) → NoAttr K (ca "Wall") x) (C_Wall_place_kept : CalleeM P w K mg base 5 (ca "Wall") "place_kept" ["self", "mark"] [] (keptW ca)) (C_Wall_sharing : CalleeM P w K mg base 6 (ca "Wall") "sharing" ["self", "mark", "course"] [] (sharingW ca)) : CalleeM P w K mg base 7 (ca "Wall") "upon" ["self", "mark"] [] (uponW ca) := by
  refine calleeM_of Df sc_Wall_upon (by decide) (by decide) fun f cdv A outer s H EX W hr hG tk hp => ?_
  refine ⟨_, (ss_cons (s_expr (q_meth C_Wall_place_kept KC_Wall tk (hr.mono (by decide)) hG (p_nm 0).val (a_cons (p_nm 1).val a_nil) []))
      (ss_one (s_ret (q_meth C_Wall_sharing KC_Wall tk (hr.mono (by decide)) hG (p_nm 0).val (a_cons (p_nm 1).val (a_cons (q_add ((q_ixA (hu65 hr) (p_nm 1) (q_int).p)).p (q_int).p) a_nil)) [])))), fun args Q E hl h => ?_⟩
  clear hl hr hG tk hp W EX H s outer A cdv f Df KC_Wall KN_Wall C_Wall_place_kept C_Wall_sharing
  obtain ⟨C, m, rfl, hC, hm, h⟩ := h
  obtain ⟨i, j, c, p, hi, hj, hme, e1, e2⟩ := mks_at hm
  walk_at "nf"
  refine ⟨⟨rfl, rfl⟩, C, m, p, rfl, hC, hm, e2, ?_⟩
  walk_at "nf"
  refine ⟨⟨rfl, rfl⟩, _, at_int (by decide) rfl, C, m, m.1 + 1, rfl, hC, hm, h⟩

theorem ok_wide (Df : DefAt K mg "_law_wide" s_wide ["_law_bag_here"]) (C_take : Callee P w K mg base 1 "_law_take" ["_law_bag_here", "_law_many"] [0] takeS) : Callee P w K mg base 2 "_law_wide" ["_law_bag_here"] [0] wideS := by
  refine callee_of Df sc_wide (by decide) (by decide) fun f cdv A outer s H EX W hr hG tk hp => ?_
  refine ⟨_, (ss_one (s_ret (q_ixA (hu65 hr) ((q_lst (a_cons (q_add (q_int).p ((q_callC C_take tk (hr.mono (by decide)) hG (by rfl) (a_own 0 (a_cons q_int a_nil)) [0])).p) (a_cons q_int (a_cons (q_add (q_int).p ((q_callC C_take tk (hr.mono (by decide)) hG (by rfl) (a_own 0 (a_cons q_int a_nil)) [0])).p) (a_cons q_int a_nil)))))).p ((q_callC C_take tk (hr.mono (by decide)) hG (by rfl) (a_own 0 (a_cons q_int a_nil)) [0])).p))), fun args Q E hl h => ?_⟩
  clear hl hr hG tk hp W EX H s outer A cdv f Df C_take
  obtain ⟨t, rfl, hb, h⟩ := h
  walk_at "nf"
  refine ⟨_, _, rfl, hb, by decide, by decide, fun a t1 a0 a1 hb1 => ?_⟩
  walk_at "nf"
  refine ⟨_, _, rfl, hb1, by decide, by decide, fun b t2 b0 b1 hb2 => ?_⟩
  walk_at "nf"
  refine ⟨_, _, rfl, hb2, by decide, by decide, fun c t3 c0 c1 hb3 => ?_⟩
  refine at_all (C := fun d => ∃ i : Int, d = .int i ∧ M6 i) c0 c1 (by simp [M6]; omega) ?_
  rintro _ ⟨i, rfl, hi⟩
  exact h i t3 hi hb3
theorem ok_place (Df : DefAt K mg "_law_place" s_place ["_law_bag_here", "_law_grains_here", "_law_at", "_law_behind"]) (B : Bt mg) (C_take : Callee P w K mg base 1 "_law_take" ["_law_bag_here", "_law_many"] [0] takeS) (C_wide : Callee P w K mg base 2 "_law_wide" ["_law_bag_here"] [0] wideS) : Callee P w K mg base 3 "_law_place" ["_law_bag_here", "_law_grains_here", "_law_at", "_law_behind"] [0] lplaceS := by
  refine callee_of Df sc_place (by decide) (by decide) fun f cdv A outer s H EX W hr hG tk hp => ?_
  refine ⟨_, (ss_cons (s_set 4 (q_ixA (hu65 hr) ((q_add (p_nm 1) ((q_lst (a_cons q_str a_nil))).p)).p ((q_callC C_take tk (hr.mono (by decide)) hG (by rfl) (a_own 0 (a_cons (q_add ((q_b1 c_lenB g_lenB (by rfl) B.len bt_len (p_nm 1))).p (q_int).p) a_nil)) [0])).p) sc_place.nd)
      (ss_cons (s_set 5 (q_ixA (hu65 hr) ((q_lst (a_cons q_str (a_cons q_str (a_cons q_str a_nil))))).p ((q_callC C_take tk (hr.mono (by decide)) hG (by rfl) (a_own 0 (a_cons q_int a_nil)) [0])).p) sc_place.nd)
      (ss_one (s_ret (q_tup (a_cons (p_nm 2).val (a_cons (q_sub (p_nm 3) (p_nm 2)) (a_cons (q_callC C_wide tk (hr.mono (by decide)) hG (by rfl) (a_own 0 a_nil) [0]) (a_cons (p_nm 4).val (a_cons (p_nm 5).val a_nil)))))))))), fun args Q E hl h => ?_⟩
  clear hl hr hG tk hp W EX H s outer A cdv f Df B C_take C_wide
  obtain ⟨t, gs, a, b, rfl, hb, hg, g1, a0, ab, b0, h⟩ := h
  walk_at "nf"
  refine ⟨szN (by simp; omega), ?_⟩
  refine ⟨_, _, rfl, hb, by rw [List.length_map]; omega, by rw [List.length_map]; omega, fun v t1 v0 v1 hb1 => ?_⟩
  refine at_all (C := fun d => ∃ x : Str, d = .str x ∧ gEmp x) v0 (by simp at v1 ⊢; omega) (fun d hd => by
    rcases List.mem_append.mp hd with q | q
    · obtain ⟨x, hx, rfl⟩ := List.mem_map.mp q
      exact ⟨x, rfl, .inl (hg x hx)⟩
    · simp at q; subst q; exact ⟨_, rfl, .inr rfl⟩) ?_
  rintro _ ⟨g, rfl, hgr⟩
  walk_at "nf"
  refine ⟨_, _, rfl, hb1, by decide, by decide, fun u t2 u0 u1 hb2 => ?_⟩
  refine at_all (C := fun d => ∃ x : Str, d = .str x ∧ Lie x) u0 u1 (by simp [Lie]) ?_
  rintro _ ⟨l, rfl, hl⟩
  walk_at "nf"
  refine ⟨_, rfl, hb2, fun w t3 hw hb3 => ?_⟩
  exact h ⟨a, b - a, w, g, l⟩ t3 ⟨a0, ⟨by show 1 ≤ b - a; omega, by show b - a ≤ 1000000; omega⟩, hw, hgr, hl, by show a + (b - a) ≤ 1000000; omega⟩ rfl (by show a + (b - a) = b; omega) hb3
theorem ok_row (Df : DefAt K mg "_law_row" s_row ["_law_bag_here", "_law_grains_here", "_law_count", "_law_edges_here"]) (B : Bt mg) (C_take : Callee P w K mg base 1 "_law_take" ["_law_bag_here", "_law_many"] [0] takeS) (C_place : Callee P w K mg base 3 "_law_place" ["_law_bag_here", "_law_grains_here", "_law_at", "_law_behind"] [0] lplaceS) : Callee P w K mg base 4 "_law_row" ["_law_bag_here", "_law_grains_here", "_law_count", "_law_edges_here"] [0] lrowS := by
  refine callee_of Df sc_row (by decide) (by decide) fun f cdv A outer s H EX W hr hG tk hp => ?_
  refine ⟨_, (ss_cons (s_set 4 (q_lst a_nil) sc_row.nd)
      (ss_cons (s_set 5 q_int sc_row.nd)
      (ss_cons (s_for hp rfl (i_rng (by rfl) B.range (p_nm 2).val) (g_name 6 sc_row.nd) (ss_cons (s_set 7 (q_sub (q_int).p (p_nm 5)) sc_row.nd)
      (ss_cons (s_if (t_lt (p_nm 7) (q_int).p) (ss_one s_break) ss_nil)
      (ss_cons (s_set 8 (q_sub ((q_add ((q_ixA (hu65 hr) (p_nm 3) ((q_callC C_take tk (hr.mono (by decide)) hG (by rfl) (a_own 0 (a_cons (q_b1 c_lenB g_lenB (by rfl) B.len bt_len (p_nm 3)) a_nil)) [0])).p)).p ((q_callC C_take tk (hr.mono (by decide)) hG (by rfl) (a_own 0 (a_cons q_int a_nil)) [0])).p)).p (q_int).p) sc_row.nd)
      (ss_cons (s_set 9 (q_ixA (hu65 hr) ((q_lst (a_cons q_int (a_cons q_int (a_cons (q_callC C_take tk (hr.mono (by decide)) hG (by rfl) (a_own 0 (a_cons q_int a_nil)) [0]) (a_cons (q_callC C_take tk (hr.mono (by decide)) hG (by rfl) (a_own 0 (a_cons (q_add (q_int).p ((q_fdiv (p_nm 7) (q_int).p)).p) a_nil)) [0]) (a_cons (q_sub (p_nm 8) (p_nm 5)) (a_cons (q_sub (p_nm 8) (p_nm 5)) a_nil)))))))).p ((q_callC C_take tk (hr.mono (by decide)) hG (by rfl) (a_own 0 (a_cons q_int a_nil)) [0])).p) sc_row.nd)
      (ss_cons (s_set 10 ((q_add (p_nm 5) ((q_bl_ (call_max2 rfl) g_max2 (by rfl) B.max bt_max (a_cons q_int (a_cons (q_bl_ (call_min2 rfl) g_min2 (by rfl) B.min bt_min (a_cons (q_sub (p_nm 7) (q_int).p) (a_cons (p_nm 9).val a_nil))) a_nil)))).p)).fz sc_row.nd)
      (ss_cons (s_set 8 (q_sub ((q_add ((q_ixA (hu65 hr) (p_nm 3) ((q_callC C_take tk (hr.mono (by decide)) hG (by rfl) (a_own 0 (a_cons (q_b1 c_lenB g_lenB (by rfl) B.len bt_len (p_nm 3)) a_nil)) [0])).p)).p ((q_callC C_take tk (hr.mono (by decide)) hG (by rfl) (a_own 0 (a_cons q_int a_nil)) [0])).p)).p (q_int).p) sc_row.nd)
      (ss_cons (s_set 11 (q_add ((q_add (p_nm 10) (q_int).p)).p ((q_callC C_take tk (hr.mono (by decide)) hG (by rfl) (a_own 0 (a_cons (q_add (q_int).p ((q_fdiv ((q_sub (q_int).p (p_nm 10))).p (q_int).p)).p) a_nil)) [0])).p) sc_row.nd)
      (ss_cons (s_set 5 (q_ixA (hu65 hr) ((q_lst (a_cons (q_add ((q_add (p_nm 10) (q_int).p)).p ((q_callC C_take tk (hr.mono (by decide)) hG (by rfl) (a_own 0 (a_cons q_int a_nil)) [0])).p) (a_cons (q_add (p_nm 10) (q_int).p) (a_cons (p_nm 11).val (a_cons (p_nm 8).val (a_cons (p_nm 8).val (a_cons q_int a_nil)))))))).p ((q_bl_ (call_min2 rfl) g_min2 (by rfl) B.min bt_min (a_cons (q_callC C_take tk (hr.mono (by decide)) hG (by rfl) (a_own 0 (a_cons q_int a_nil)) [0]) (a_cons (q_callC C_take tk (hr.mono (by decide)) hG (by rfl) (a_own 0 (a_cons q_int a_nil)) [0]) a_nil)))).p) sc_row.nd)
      (ss_cons (s_set 5 (q_bl_ (call_max2 rfl) g_max2 (by rfl) B.max bt_max (a_cons (q_add (p_nm 10) (q_int).p) (a_cons (q_bl_ (call_min2 rfl) g_min2 (by rfl) B.min bt_min (a_cons q_int (a_cons (p_nm 5).val a_nil))) a_nil))) sc_row.nd)
      (ss_one (s_expr (q_append 4 (a_cons (q_callC C_place tk (hr.mono (by decide)) hG (by rfl) (a_own 0 (a_cons (p_nm 1).val (a_cons (p_nm 10).val (a_cons (p_nm 5).val a_nil)))) [0]) a_nil))))))))))))))
      (ss_one (s_ret (q_fzn 4)))))), fun args Q E hl h => ?_⟩
  clear hl hr hG tk hp W EX H s outer A cdv f Df B C_take C_place
  obtain ⟨t, gs, n, es, rfl, hb, hg, g1, n0, n1, he, h⟩ := h
  walk_at "nf"
  refine ⟨szI (by omega), by omega, ?_⟩
  refine .rng [0, 4, 5, 6, 7, 8, 9, 10, 11] (fun j vs => ∃ (t : T) (ps : List Pl) (a b c d e f : Option T), vs = [some t, some (.ow .lst (ps.map plD)), some (.fz (.int (rowEnd 0 ps))), a, b, c, d, e, f] ∧ IsBag t ∧ (∀ p, p ∈ ps → plOk p) ∧ inRow 0 ps ∧ ps.length ≤ j ∧ 0 ≤ rowEnd 0 ps ∧ rowEnd 0 ps ≤ 1000000) ⟨[_, _, _, _, _, _, _, _, _], rfl, _, [], _, _, _, _, _, _, rfl, hb, by simp, trivial, Nat.le_refl _, Int.le_refl _, by decide⟩ ?_ ?_
  · rintro j vs hj ⟨t, ps, a1, a2, a3, a4, a5, a6, rfl, hb, hps, hr, hl, e0, e1⟩
    rw [Int.zero_add]
    walk_at "nf"
    refine ⟨fun z => h ps t hps hr (by omega) hb, fun z => ?_⟩
    have z : ¬ (1000000 - rowEnd 0 ps < 1) := of_decide_eq_false z
    obtain ⟨e, he0⟩ : ∃ e, e = rowEnd 0 ps := ⟨_, rfl⟩
    rw [← he0] at z e0 e1 ⊢
    walk_at "nf"
    refine ⟨_, _, rfl, hb, by rw [List.length_map]; omega, by rw [List.length_map]; omega, fun u t2 u0 u1 hb2 => ?_⟩
    refine at_all (C := fun d => ∃ n : Int, d = .int n) u0 u1 (fun d hd => by
      obtain ⟨x, _, rfl⟩ := List.mem_map.mp hd; exact ⟨x, rfl⟩) ?_
    rintro _ ⟨x1, rfl⟩
    refine ⟨_, _, rfl, hb2, by decide, by decide, fun v t3 v0 v1 hb3 => ?_⟩
    walk_at "nf"
    refine ⟨_, _, rfl, hb3, by decide, by decide, fun g t4 g0 g1' hb4 => ?_⟩
    refine ⟨cdivS (by omega) (by omega), ?_⟩
    have d0 : 0 ≤ (1000000 - e) / 8 := Int.ediv_nonneg (by omega) (by omega)
    have d1 : (1000000 - e) / 8 ≤ 1000000 - e := Int.ediv_le_self _ (by omega)
    refine ⟨_, _, rfl, hb4, by omega, by omega, fun g2 t5 g20 g21 hb5 => ?_⟩
    refine ⟨_, _, rfl, hb5, by decide, by decide, fun ix t6 i0 i1 hb6 => ?_⟩
    refine at_all (C := fun d => ∃ n : Int, d = .int n) i0 i1 (by simp) ?_
    rintro _ ⟨gap, rfl⟩
    walk_at "nf"
    obtain ⟨at', hat⟩ : ∃ a : Int, a = e + max 0 (min (1000000 - e - 1) gap) := ⟨_, rfl⟩
    have hat0 : e ≤ at' ∧ at' ≤ 999999 := by omega
    refine ⟨_, _, rfl, hb6, by rw [List.length_map]; omega, by rw [List.length_map]; omega, fun u t7 u0 u1 hb7 => ?_⟩
    refine at_all (C := fun d => ∃ n : Int, d = .int n) u0 u1 (fun d hd => by
      obtain ⟨x, _, rfl⟩ := List.mem_map.mp hd; exact ⟨x, rfl⟩) ?_
    rintro _ ⟨x2, rfl⟩
    refine ⟨_, _, rfl, hb7, by decide, by decide, fun v t8 v0 v1 hb8 => ?_⟩
    rw [← hat]
    walk_at "nf"
    refine ⟨cdivS (by omega) (by omega), ?_⟩
    have d0 : 0 ≤ (1000000 - at') / 8 := Int.ediv_nonneg (by omega) (by omega)
    have d1 : (1000000 - at') / 8 ≤ 1000000 - at' := Int.ediv_le_self _ (by omega)
    refine ⟨_, _, rfl, hb8, by omega, by omega, fun fa t9 f0 f1 hb9 => ?_⟩
    walk_at "nf"
    refine ⟨_, _, rfl, hb9, by decide, by decide, fun p t10 p0 p1 hb10 => ?_⟩
    refine ⟨_, _, rfl, hb10, by decide, by decide, fun q t11 q0 q1 hb11 => ?_⟩
    refine ⟨_, _, rfl, hb11, by decide, by decide, fun q' t12 q'0 q'1 hb12 => ?_⟩
    refine at_all (C := fun d => ∃ n : Int, d = .int n) (show 0 ≤ min q q' by omega) (show min q q' < ((6 : Nat) : Int) by omega) (by simp) ?_
    rintro _ ⟨en, rfl⟩
    walk_at "nf"
    refine ⟨rfl, t12, gs, at', max (at' + 1) (min 1000000 en), rfl, hb12, hg, g1, by omega, by omega, by omega, fun pl t13 hpl hpx hpe hb13 => ?_⟩
    refine ⟨szL (by rw [List.length_map]; omega), ?_⟩
    refine ⟨[_, _, _, _, _, _, _, _, _], rfl, t13, ps ++ [pl], _, _, _, _, _, _, by rw [List.map_append, rowEnd_snoc, hpe]; try rfl, hb13, fun p hp => ?_, inRow_snoc hr (by omega), by simp; omega, by rw [rowEnd_snoc]; omega, by rw [rowEnd_snoc]; omega⟩
    rcases List.mem_append.mp hp with r | r
    · exact hps p r
    · simp at r; subst r; exact hpl
  · rintro vs ⟨t, ps, a1, a2, a3, a4, a5, a6, rfl, hb, hps, hr, hl, e0, e1⟩
    exact h ps t hps hr (by omega) hb
theorem ok_share (Df : DefAt K mg "_law_share" s_share ["_law_one", "_law_other"]) (B : Bt mg) : Callee P w K mg base 1 "_law_share" ["_law_one", "_law_other"] [] lshareS := by
  refine callee_of Df sc_share (by decide) (by decide) fun f cdv A outer s H EX W hr hG tk hp => ?_
  refine ⟨_, (ss_one (s_ret (q_lt ((q_bl_ (call_max2 rfl) g_max2 (by rfl) B.max bt_max (a_cons (q_ixA (hu65 hr) (p_nm 0) (q_int).p) (a_cons (q_ixA (hu65 hr) (p_nm 1) (q_int).p) a_nil)))).p ((q_bl_ (call_min2 rfl) g_min2 (by rfl) B.min bt_min (a_cons ((q_add ((q_ixA (hu65 hr) (p_nm 0) (q_int).p)).p ((q_ixA (hu65 hr) (p_nm 0) (q_int).p)).p)).fz (a_cons ((q_add ((q_ixA (hu65 hr) (p_nm 1) (q_int).p)).p ((q_ixA (hu65 hr) (p_nm 1) (q_int).p)).p)).fz a_nil)))).p))), fun args Q E hl h => ?_⟩
  clear hl hr hG tk hp W EX H s outer A cdv f Df B
  obtain ⟨p, q, rfl, hp, hq, h⟩ := h
  walk_at "nf"
  refine ⟨_, at_int (by decide) rfl, _, at_int (by decide) rfl, _, at_int (by decide) rfl, _, at_int (by decide) rfl, _, at_int (by decide) rfl, _, at_int (by decide) rfl, ?_⟩
  have e : shB p q = decide (max p.x q.x < min (p.x + p.w) (q.x + q.w)) := by
    unfold shB
    rw [← Bool.decide_and]
    exact decide_eq_decide.mpr (by omega)
  rw [e] at h
  exact h
theorem ok_edges (Df : DefAt K mg "_law_edges" s_edges ["_law_places"]) : Callee P w K mg base 1 "_law_edges" ["_law_places"] [] edgesS := by
  refine callee_of Df sc_edges (by decide) (by decide) fun f cdv A outer s H EX W hr hG tk hp => ?_
  refine ⟨_, (ss_cons (s_set 1 ((q_lst (a_cons q_int (a_cons q_int (a_cons q_int a_nil))))).fz sc_edges.nd)
      (ss_cons (s_for hp rfl (i_list (p_nm 0).val) (g_name 2 sc_edges.nd) (ss_one (s_set 1 ((q_add (p_nm 1) ((q_lst (a_cons (q_ixA (hu65 hr) (p_nm 2) (q_int).p) (a_cons ((q_add ((q_ixA (hu65 hr) (p_nm 2) (q_int).p)).p ((q_ixA (hu65 hr) (p_nm 2) (q_int).p)).p)).fz a_nil)))).p)).fz sc_edges.nd)))
      (ss_one (s_ret (p_nm 1).val)))), fun args Q E hl h => ?_⟩
  clear hl hr hG tk hp W EX H s outer A cdv f Df
  obtain ⟨ps, rfl, hp, h⟩ := h
  walk_at "nf"
  refine .over ps plD rfl [1, 2] (fun j vs => ∃ y, vs = [some (.fz (intsD (edgF (ps.take j)))), y]) ⟨[_, _], rfl, _, rfl⟩ ?_ ?_
  · rintro j p vs hj ⟨y, rfl⟩
    have hjl := (List.getElem?_eq_some_iff.mp hj).1
    have hle := edgF_len (ps := ps.take j)
    rw [List.length_take, Nat.min_eq_left (by omega)] at hle
    walk_at "nf"
    refine ⟨_, at_int (by decide) rfl, _, at_int (by decide) rfl, _, at_int (by decide) rfl, szN (by simp; omega), ?_⟩
    exact ⟨[_, _], rfl, _, by rw [edgF_snoc hj, intsD, List.map_append]; try rfl⟩
  · rintro vs ⟨y, rfl⟩
    rw [List.take_length]
    exact h
theorem ok_copy (Df : DefAt K mg "_law_copy" s_copy ["_law_courses"]) (B : Bt mg) : Callee P w K mg base 1 "_law_copy" ["_law_courses"] [] copyW := by
  refine callee_of Df sc_copy (by decide) (by decide) fun f cdv A outer s H EX W hr hG tk hp => ?_
  refine ⟨_, (ss_one (s_ret ((q_lc (own := [("_law_height", 1), ("_law_places", 2)]) rfl sc_copy.nd (i_list (p_nm 0).val) (blkOk_by (by rfl)) (fun _ _ _ _ _ => (g_tup (n := 2) rfl (gs_cons (g_name 1 sc_copy.nd) (gs_cons (g_name 2 sc_copy.nd) gs_nil)))) (fun _ _ _ _ _ => ts_nil) (fun _ _ _ _ _ => (q_tup (a_cons (p_nm 1).val (a_cons ((q_ty1 call_list_of g_list (by rfl) B.list bt_list (p_nm 2))).fz a_nil)))))).fz)), fun args Q E hl h => ?_⟩
  clear hl hr hG tk hp W EX H s outer A cdv f Df B
  obtain ⟨C, rfl, h⟩ := h
  walk_at "nf"
  refine .each C coD rfl coD (fun j a hj => ⟨rfl, fun _ => ?_, fun z => nomatch z⟩) ?_
  · exact ⟨all_one hj, rfl⟩
  exact h
theorem ok_marks (Df : DefAt K mg "_law_marks" s_marks ["_law_courses"]) (B : Bt mg) : Callee P w K mg base 1 "_law_marks" ["_law_courses"] [] lmarksS := by
  refine callee_of Df sc_marks (by decide) (by decide) fun f cdv A outer s H EX W hr hG tk hp => ?_
  refine ⟨_, (ss_cons (s_set 1 ((q_lst a_nil)).fz sc_marks.nd)
      (ss_cons (s_for hp rfl (i_rng (by rfl) B.range (q_b1 c_lenB g_lenB (by rfl) B.len bt_len (p_nm 0))) (g_name 2 sc_marks.nd) (ss_one (s_set 1 ((q_add (p_nm 1) ((q_lc (own := [("_law_j", 3)]) rfl sc_marks.nd (i_rng (by rfl) B.range (q_b1 c_lenB g_lenB (by rfl) B.len bt_len ((q_ixA (hu65 hr) ((q_ixA (hu65 hr) (p_nm 0) (p_nm 2))).p (q_int).p)).p)) (blkOk_by (by rfl)) (fun _ _ _ _ _ => (g_name 3 sc_marks.nd)) (fun _ _ _ _ _ => ts_nil) (fun _ _ _ _ _ => (q_tup (a_cons (q_add (p_nm 2) (q_int).p) (a_cons (q_add (p_nm 3) (q_int).p) a_nil)))))).p)).fz sc_marks.nd)))
      (ss_one (s_ret (p_nm 1).val)))), fun args Q E hl h => ?_⟩
  clear hl hr hG tk hp W EX H s outer A cdv f Df B
  obtain ⟨C, rfl, hC, hl, h⟩ := h
  walk_at "nf"
  refine ⟨szI (by rw [List.length_map]; omega), by omega, ?_⟩
  rw [show ((((C.map coD).length : Nat) : Int)).toNat = C.length by simp]
  refine .rng [1, 2, 3] (fun j vs => ∃ x y, vs = [some (.fz (mksD (mksF (C.take j) 1))), x, y]) ⟨[_, _, _], rfl, _, _, rfl⟩ ?_ ?_
  · rintro j vs hj ⟨x, y, rfl⟩
    rw [Int.zero_add]
    have hc := List.getElem?_eq_getElem hj
    have hle := tot_le hc
    have hml := mks_len (C := C.take j) (k := 1)
    walk_at "nf"
    refine ⟨coD C[j], at_of (by rw [List.getElem?_map, hc]; rfl), _, at_int (by decide) rfl, ?_⟩
    refine ⟨szI (by rw [List.length_map]; omega), by omega, ?_⟩
    refine .each (List.range C[j].ps.length) (fun k => .int (k : Nat)) (by rw [List.length_map]; unfold rngD; simp) (fun i => mkD ((j : Int) + 1, (i : Int) + 1)) (fun i a hi => ⟨fun _ => ⟨all_one hi, rfl⟩, fun z => nomatch z⟩) ?_
    refine ⟨szN (by show (List.map mkD _).length + (List.map _ (List.range _)).length ≤ _; rw [List.length_map, List.length_map, List.length_range]; omega), ?_⟩
    exact ⟨[_, _, _], rfl, _, _, by rw [mks_snoc hc, mksD, List.map_append, rowMk, List.map_map, Int.add_comm 1 (j : Int)]; rfl⟩
  · rintro vs ⟨x, y, rfl⟩
    rw [List.take_length]
    exact h
theorem ok_shut (Df : DefAt K mg "_law_shut" s_shut ["_law_bag_here"]) (B : Bt mg) (C_grains : Callee P w K mg base 2 "_law_grains" ["_law_bag_here"] [0] grainsS) (C_take : Callee P w K mg base 1 "_law_take" ["_law_bag_here", "_law_many"] [0] takeS) (C_row : Callee P w K mg base 4 "_law_row" ["_law_bag_here", "_law_grains_here", "_law_count", "_law_edges_here"] [0] lrowS) (C_edges : Callee P w K mg base 1 "_law_edges" ["_law_places"] [] edgesS) (C_wide : Callee P w K mg base 2 "_law_wide" ["_law_bag_here"] [0] wideS) (C_share : Callee P w K mg base 1 "_law_share" ["_law_one", "_law_other"] [] lshareS) : Callee P w K mg base 5 "_law_shut" ["_law_bag_here"] [0] shutS := by
  refine callee_of Df sc_shut (by decide) (by decide) fun f cdv A outer s H EX W hr hG tk hp => ?_
  refine ⟨_, (ss_cons (s_set 1 (q_callC C_grains tk (hr.mono (by decide)) hG (by rfl) (a_own 0 a_nil) [0]) sc_shut.nd)
      (ss_cons (s_set 2 (q_add (q_int).p ((q_callC C_take tk (hr.mono (by decide)) hG (by rfl) (a_own 0 (a_cons q_int a_nil)) [0])).p) sc_shut.nd)
      (ss_cons (s_set 3 (q_ixA (hu65 hr) ((q_lst (a_cons (q_fdiv (q_int).p (p_nm 2)) (a_cons (q_bl_ (call_min2 rfl) g_min2 (by rfl) B.min bt_min (a_cons q_int (a_cons (q_fdiv (q_int).p (p_nm 2)) a_nil))) a_nil)))).p ((q_callC C_take tk (hr.mono (by decide)) hG (by rfl) (a_own 0 (a_cons q_int a_nil)) [0])).p) sc_shut.nd)
      (ss_cons (s_set 4 (q_callC C_take tk (hr.mono (by decide)) hG (by rfl) (a_own 0 (a_cons q_int a_nil)) [0]) sc_shut.nd)
      (ss_cons (s_set 5 (q_lst a_nil) sc_shut.nd)
      (ss_cons (s_set 6 ((q_lst a_nil)).fz sc_shut.nd)
      (ss_cons (s_for hp rfl (i_rng (by rfl) B.range (p_nm 2).val) (g_name 7 sc_shut.nd) (ss_cons (s_set 8 (q_callC C_take tk (hr.mono (by decide)) hG (by rfl) (a_own 0 (a_cons (q_add (p_nm 3) (q_int).p) a_nil)) [0]) sc_shut.nd)
      (ss_cons (s_if (t_lt (p_nm 4) (q_int).p) (ss_one (s_set 8 (q_ixA (hu65 hr) ((q_lst (a_cons q_int (a_cons (q_sub (q_int).p (p_nm 2)) a_nil)))).p ((q_ty1 call_int1 g_int1 (by rfl) B.int bt_int ((q_eq (hu65 hr) (p_nm 7) ((q_ixA (hu65 hr) ((q_lst (a_cons q_int (a_cons (q_sub (p_nm 2) (q_int).p) a_nil)))).p (p_nm 4))).p)).p)).p) sc_shut.nd)) ss_nil).cut
      (ss_cons (s_set 9 (q_callC C_row tk (hr.mono (by decide)) hG (by rfl) (a_own 0 (a_cons (p_nm 1).val (a_cons (p_nm 8).val (a_cons (q_callC C_edges tk (hr.mono (by decide)) hG (by rfl) (a_cons (p_nm 6).val a_nil) []) a_nil)))) [0]) sc_shut.nd)
      (ss_cons (s_if (t_gt (p_nm 7) (q_int).p) (ss_one (s_setLcF 9 (own := [("_law_place_here", 10)]) rfl sc_shut.nd (i_list (p_nm 9).val) (blkOk_by (by rfl)) (fun _ _ _ _ _ => (g_name 10 sc_shut.nd)) (fun _ _ _ _ _ => (ts_one (t_val (q_b1 (cr_any rfl) g_any (by rfl) B.any bt_any ((q_lc (own := [("_law_one", 11)]) rfl sc_shut.nd (i_list (p_nm 6).val) (blkOk_by (by rfl)) (fun _ _ _ _ _ => (g_name 11 sc_shut.nd)) (fun _ _ _ _ _ => ts_nil) (fun _ _ _ _ _ => (q_callC C_share takes0 (hr.mono (by decide)) hG (by rfl) (a_cons (p_nm 10).val (a_cons (p_nm 11).val a_nil)) [])))).p)))) (fun _ _ _ _ _ => (p_nm 10).val))) ss_nil).cut
      (ss_cons (s_expr (q_append 5 (a_cons (q_tup (a_cons (q_callC C_wide tk (hr.mono (by decide)) hG (by rfl) (a_own 0 a_nil) [0]) (a_cons (p_nm 9).val a_nil))) a_nil)))
      (ss_one (s_set 6 (p_nm 9).val sc_shut.nd))))))))
      (ss_one (s_ret (q_fzn 5)))))))))), fun args Q E hl h => ?_⟩
  clear hl hr hG tk hp W EX H s outer A cdv f Df B C_grains C_take C_row C_edges C_wide C_share
  obtain ⟨t, rfl, hb, h⟩ := h
  walk_at "nf"
  refine ⟨_, rfl, hb, fun gs t1 hg g1 g2 hb1 => ?_⟩
  walk_at "nf"
  refine ⟨_, _, rfl, hb1, by decide, by decide, fun a t2 a0 a1 hb2 => ?_⟩
  refine ⟨cdivS (by omega) (by omega), ?_⟩
  refine ⟨cdivS (by omega) (by omega), ?_⟩
  have q0 : 4 ≤ 24 / (1 + a) := (Int.le_ediv_iff_mul_le (by omega)).mpr (by omega)
  have q1 : 24 / (1 + a) * (1 + a) ≤ 24 := Int.ediv_mul_le _ (by omega)
  have q2 : 24 / (1 + a) ≤ 24 := Int.ediv_le_self _ (by omega)
  refine ⟨_, _, rfl, hb2, by decide, by decide, fun jx t3 j0 j1 hb3 => ?_⟩
  refine at_all (C := fun d => ∃ c : Int, d = .int c ∧ 1 ≤ c ∧ c ≤ 24 / (1 + a)) j0 j1 (by simp; omega) ?_
  rintro _ ⟨mo, rfl, mo1, mo2⟩
  walk_at "nf"
  refine ⟨_, _, rfl, hb3, by decide, by decide, fun wi t4 w0 w1 hb4 => ?_⟩
  walk_at "nf"
  refine ⟨szI (by omega), by omega, ?_⟩
  obtain ⟨kk, hkk⟩ : ∃ k : Int, k = if wi = 0 then 0 else (1 + a) - 1 := ⟨_, rfl⟩
  refine .rng [0, 5, 6, 7, 8, 9] (fun j vs => ∃ (t : T) (C : List Co) (x1 x2 x3 : Option T), vs = [some t, some (.ow .lst (C.map coD)), some (.fz (psD (psIn C (j : Nat)))), x1, x2, x3] ∧ IsBag t ∧ C.length = j ∧ (∀ c, c ∈ C → coOk c) ∧ (∀ m, m ∈ mksF C 1 → 1 < m.1 → bsF C m (m.1 - 1) ≠ []) ∧ ((totF C : Nat) : Int) ≤ (if wi < 2 then j + (if kk < j then 24 - (1 + a) else 0) else 24 / (1 + a) * j)) ⟨[_, _, _, _, _, _], rfl, _, [], _, _, _, rfl, hb4, rfl, by simp, by simp [mksF], by simp only [totF, List.map_nil, List.sum_nil]; split <;> (try split) <;> omega⟩ ?_ ?_
  · rintro j vs hj ⟨t, C, x, y, z, rfl, hb, hCl, hCo, hbo, hto⟩
    have hjm : (j : Int) < (1 + a) := by omega
    rw [Int.zero_add]
    walk_at "nf"
    refine ⟨_, _, rfl, hb, by omega, by omega, fun ct t5 ct0 ct1 hb5 => ?_⟩
    walk_at "nf"
    refine .fr [8] (fun vs => ∃ n : Int, vs = [some (.fz (.int n))] ∧ 0 ≤ n ∧ n ≤ 24 ∧ ((totF C : Nat) : Int) + n ≤ (if wi < 2 then j + 1 + (if kk < (j : Int) + 1 then 24 - (1 + a) else 0) else 24 / (1 + a) * ((j : Int) + 1))) ?_ ?_
    · walk_at "nf"
      refine ⟨fun z => ?_, fun z => ?_⟩
      · have z := of_decide_eq_true z
        rw [if_pos z] at hto
        have hw : atI [D.int 0, D.int (1 + a - 1)] wi = some (.int kk) := by
          obtain rfl | rfl : wi = 0 ∨ wi = 1 := by omega
          · rw [hkk]; exact at_int (by decide) rfl
          · rw [hkk]; exact at_int (by decide) rfl
        have hix : ∃ n : Int, atI [D.int 1, D.int (25 - (1 + a))] (if decide ((j : Int) = kk) then 1 else 0) = some (.int n) ∧ 0 ≤ n ∧ n ≤ 24 ∧ ((totF C : Nat) : Int) + n ≤ j + 1 + (if kk < (j : Int) + 1 then 24 - (1 + a) else 0) := by
          by_cases e : (j : Int) = kk
          · refine ⟨25 - (1 + a), by simp [e]; exact at_int (by decide) rfl, by omega, by omega, ?_⟩
            rw [if_neg (by omega)] at hto
            rw [if_pos (by omega)]; omega
          · refine ⟨1, by simp [e]; exact at_int (by decide) rfl, by omega, by omega, ?_⟩
            split at hto <;> split <;> omega
        obtain ⟨n, hn, n0, n1, n2⟩ := hix
        refine ⟨_, hw, .inl rfl, .int n, hn, ?_⟩
        exact ⟨[_], rfl, n, rfl, n0, n1, by rw [if_pos z]; exact n2⟩
      · have z := of_decide_eq_false z
        rw [if_neg z] at hto
        refine ⟨[_], rfl, ct, rfl, ct0, by omega, ?_⟩
        rw [if_neg z, Int.mul_add, Int.mul_one]; omega
    rintro vs ⟨n, rfl, n0, n1, hn⟩
    walk_at "nf"
    have hel := edgF_len (ps := psIn C (j : Nat))
    have hpl : (psIn C (j : Nat)).length ≤ 24 := by
      by_cases q : 1 ≤ j
      · have hj2 := List.getElem?_eq_getElem (show j - 1 < C.length by omega)
        rw [psIn_at hj2 (by omega)]
        exact (hCo _ (List.mem_of_getElem? hj2)).2.2.2
      · rw [psIn_no (by omega)]; decide
    refine ⟨psIn C (j : Nat), rfl, hpl, ?_⟩
    refine ⟨t5, gs, n, edgF (psIn C (j : Nat)), rfl, hb5, hg, g2, n0, n1, ⟨by omega, by omega⟩, fun ps t6 hps hr hpn hb6 => ?_⟩
    walk_at "nf"
    refine .fr [9] (fun vs => ∃ (ps' : List Pl), vs = [some (.fz (psD ps'))] ∧ (∀ p, p ∈ ps' → plOk p) ∧ inRow 0 ps' ∧ ps'.length ≤ ps.length ∧ (1 ≤ j → ∀ p, p ∈ ps' → (psIn C (j : Nat)).any (shB p) = true)) ?_ ?_
    · walk_at "nf"
      refine ⟨fun z => ?_, fun z => ?_⟩
      · have hpC : ∀ q, q ∈ psIn C (j : Nat) → 0 < q.w := fun q hq => by
          unfold psIn at hq
          split at hq
          · split at hq
            · rename_i c hc
              exact ((hCo _ (List.mem_of_getElem? hc)).2.1 q hq).2.1.1
            · simp at hq
          · simp at hq
        refine .over ps plD rfl (fun p => (psIn C (j : Nat)).any (shB p)) plD (fun i p hi => ?_) ?_
        · have hpp := (hps p (List.mem_of_getElem? hi)).2.1.1
          refine .each (psIn C (j : Nat)) plD rfl (fun q => .bl (shB p q)) (fun i' q hq => ⟨fun _ => ⟨p, q, rfl, by omega, hpC q (List.mem_of_getElem? hq), all_one hq, rfl⟩, fun z => nomatch z⟩) ?_
          refine ⟨(psIn C (j : Nat)).map (shB p), by rw [List.map_map]; rfl, ?_⟩
          rw [List.any_map]
          exact ⟨fun z => ⟨over_yes hi z, rfl⟩, fun z => ⟨over_no hi z, rfl⟩⟩
        exact ⟨[_], rfl, ps.filter (fun p => (psIn C (j : Nat)).any (shB p)), rfl, fun p hp => hps p (List.mem_filter.mp hp).1, inRow_filter (fun p hp => by have := (hps p hp).2.1.1; omega) hr, List.length_filter_le _ _, fun _ p hp => (List.mem_filter.mp hp).2⟩
      · have z := of_decide_eq_false z
        exact ⟨[_], rfl, ps, rfl, hps, hr, Nat.le_refl _, by omega⟩
    rintro vs ⟨ps', rfl, hps', hr', hl', hsh⟩
    walk_at "nf"
    refine ⟨rfl, t6, rfl, hb6, fun w t7 hw hb7 => ?_⟩
    refine ⟨szL (by rw [List.length_map]; omega), ?_⟩
    have e1 : psIn (C ++ [⟨w, ps'⟩]) ((j + 1 : Nat) : Int) = ps' := psIn_at (i := j) (c := ⟨w, ps'⟩) (by rw [← hCl, List.getElem?_append_right (Nat.le_refl _)]; simp) (by omega)
    refine ⟨[some t7, some (.ow .lst (C.map coD ++ [coD ⟨w, ps'⟩])), some (.fz (psD ps')), _, _, _], rfl, t7, C ++ [⟨w, ps'⟩], _, _, _, by rw [List.map_append, e1]; try rfl, hb7, by simp [hCl], fun c hc => ?_, borne_snoc hbo fun q p hp => ?_, ?_⟩
    · rcases List.mem_append.mp hc with q | q
      · exact hCo c q
      · simp at q; subst q; exact ⟨hw, hps', hr', by show ps'.length ≤ 24; omega⟩
    · rw [hCl]; exact hsh (by omega) p hp
    · rw [tot_snoc, show ((j + 1 : Nat) : Int) = (j : Int) + 1 by omega]
      have : ((totF C + (⟨w, ps'⟩ : Co).ps.length : Nat) : Int) ≤ ((totF C : Nat) : Int) + n := by show ((totF C + ps'.length : Nat) : Int) ≤ _; omega
      exact Int.le_trans this hn
  · rintro vs ⟨t, C, x, y, z, rfl, hb, hCl, hCo, hbo, hto⟩
    refine h C t ⟨by omega, hCo, ?_, hbo⟩ hb
    have : (((1 + a).toNat : Nat) : Int) = (1 + a) := by omega
    rw [this] at hto
    split at hto
    · (try split at hto) <;> omega
    · omega

theorem ok_Wall_held_up (Df : DefM K (ca "Wall") "held_up" "Wall.held_up" s_Wall_held_up ["self", "marks"]) (B : Bt mg) (KC_Wall : Cls K (ca "Wall")) (KN_Wall : ∀ x, x ∈ (["kept_courses"] : List Str) → NoAttr K (ca "Wall") x) (C_Wall_marks : CalleeM P w K mg base 1 (ca "Wall") "marks" ["self"] [] (marksW ca)) (C_are_marks : Callee P w K mg base 5 "are_marks" ["thing"] [] marksI) (C_Wall_place_kept : CalleeM P w K mg base 5 (ca "Wall") "place_kept" ["self", "mark"] [] (keptW ca)) (C_Wall_beneath : CalleeM P w K mg base 7 (ca "Wall") "beneath" ["self", "mark"] [] (beneathW ca)) : CalleeM P w K mg base 8 (ca "Wall") "held_up" ["self", "marks"] [] (heldW ca) := by
  refine calleeM_of Df sc_Wall_held_up (by decide) (by decide) fun f cdv A outer s H EX W hr hG tk hp => ?_
  refine ⟨_, (ss_cons (s_if (t_not (t_val (q_callC C_are_marks tk (hr.mono (by decide)) hG (by rfl) (a_cons (p_nm 1).val a_nil) []))) (ss_one s_never) ss_nil)
      (ss_cons (s_for hp rfl (i_list (p_nm 1).val) (g_name 2 sc_Wall_held_up.nd) (ss_one (s_expr (q_meth C_Wall_place_kept KC_Wall tk (hr.mono (by decide)) hG (p_nm 0).val (a_cons (p_nm 2).val a_nil) []))))
      (ss_cons (s_set 3 (q_lst a_nil) sc_Wall_held_up.nd)
      (ss_cons (s_for hp rfl (i_list (q_meth0 C_Wall_marks KC_Wall tk (hr.mono (by decide)) hG (p_nm 0).val)) (g_name 2 sc_Wall_held_up.nd) (ss_one (s_if (t_val (q_b1 (cr_any rfl) g_any (by rfl) B.any bt_any ((q_lc (own := [("under", 4)]) rfl sc_Wall_held_up.nd (i_list (q_meth C_Wall_beneath KC_Wall tk (hr.mono (by decide)) hG (p_nm 0).val (a_cons (p_nm 2).val a_nil) [])) (blkOk_by (by rfl)) (fun _ _ _ _ _ => (g_name 4 sc_Wall_held_up.nd)) (fun _ _ _ _ _ => ts_nil) (fun _ _ _ _ _ => (q_or (q_inA (hu65 hr) (p_nm 4) (p_nm 1)) (q_one (q_inA (hu65 hr) (p_nm 4) (p_nm 3))))))).p)) (ss_one (s_expr (q_append 3 (a_cons (p_nm 2).val a_nil)))) ss_nil)))
      (ss_one (s_ret (q_fzn 3))))))), fun args Q E hl h => ?_⟩
  clear hl hr hG tk hp W EX H s outer A cdv f Df B KC_Wall KN_Wall C_Wall_marks C_are_marks C_Wall_place_kept C_Wall_beneath
  obtain ⟨C, ms, rfl, hC, hl, hms, h⟩ := h
  walk_at "nf"
  refine ⟨ms, rfl, hl, fun m hm => wall_mk24 hC (hms m hm), fun z => (nomatch z), fun _ => ?_⟩
  walk_at "nf"
  refine .over ms mkD rfl [2] (fun j vs => ∃ y, vs = [y]) ⟨[_], rfl, _, rfl⟩ ?_ ?_
  · rintro j m vs hj ⟨y, rfl⟩
    have hm := hms m (List.mem_of_getElem? hj)
    obtain ⟨i, i', c, p, hi, hi', hme, e1, e2⟩ := mks_at hm
    walk_at "nf"
    refine ⟨⟨rfl, rfl⟩, C, m, p, rfl, hC, hm, e2, ?_⟩
    exact ⟨[_], rfl, _, rfl⟩
  rintro vs ⟨y, rfl⟩
  walk_at "nf"
  refine ⟨⟨rfl, rfl⟩, C, rfl, by have := hC.2.2.1; omega, ?_⟩
  have hml := mks_len (C := C) (k := 1)
  refine .over (mksF C 1) mkD rfl [2, 3] (fun j vs => ∃ x, vs = [x, some (.ow .lst ((heldN C ms j).map mkD))]) ⟨[_, _], rfl, _, rfl⟩ ?_ ?_
  · rintro j m vs hj ⟨x, rfl⟩
    have hm := List.mem_of_getElem? hj
    have hjl := (List.getElem?_eq_some_iff.mp hj).1
    have hnl := heldN_len (C := C) (ms := ms) (j := j)
    have hCt := hC.2.2.1
    have hsn := heldN_succ (ms := ms) hj
    walk_at "nf"
    refine ⟨⟨rfl, rfl⟩, C, m, rfl, hC, hm, ?_⟩
    refine .each (bsF C m (m.1 - 1)) mkD rfl (fun u => .bl (decide (u ∈ ms) || decide (u ∈ heldN C ms j))) (fun i u hi => ⟨fun _ => ?_, fun z => nomatch z⟩) ?_
    · refine ⟨.inr ⟨pl_mk, pls_mks⟩, fun z => ?_, fun z => ?_⟩
      · have z : ((ms.map mkD).any fun z => eqD z (mkD u)) = true := z
        rw [any_mks] at z
        have e : D.bl (decide (u ∈ ms) || decide (u ∈ heldN C ms j)) = .bl true := by rw [z, Bool.true_or]
        exact ⟨by rw [← all_one hi, e]; try rfl, rfl⟩
      · have z : ((ms.map mkD).any fun z => eqD z (mkD u)) = false := z
        rw [any_mks] at z
        refine ⟨.inr ⟨pl_mk, pls_mks⟩, ?_⟩
        have e : D.bl (decide (u ∈ ms) || decide (u ∈ heldN C ms j)) = .bl (((heldN C ms j).map mkD).any fun z => eqD z (mkD u)) := by rw [z, Bool.false_or, any_mks]
        exact ⟨by rw [← all_one hi, e]; try rfl, rfl⟩
    refine ⟨(bsF C m (m.1 - 1)).map fun u => decide (u ∈ ms) || decide (u ∈ heldN C ms j), by rw [List.map_map]; rfl, ?_⟩
    rw [List.any_map]
    refine ⟨fun z => ?_, fun z => ?_⟩
    all_goals have z2 : (bsF C m (m.1 - 1)).any (fun u => decide (u ∈ ms) || decide (u ∈ heldN C ms j)) = _ := z
    · refine ⟨rfl, szL (by rw [List.length_map]; omega), ?_⟩
      exact ⟨[_, _], rfl, _, by rw [hsn, hlF, if_pos z2, List.map_append]; try rfl⟩
    · exact ⟨[_, _], rfl, _, by rw [hsn, hlF, z2, if_neg (by decide)]⟩
  · rintro vs ⟨x, rfl⟩
    rw [heldN_all]
    exact h
theorem ok_spans (Df : DefAt K mg "_law_spans" s_spans ["_law_shut_here", "_law_marks_here"]) (KC_Wall : Cls K (ca "Wall")) (KN_Wall : ∀ x, x ∈ (["kept_courses"] : List Str) → NoAttr K (ca "Wall") x) (C_Wall_courses : CalleeM P w K mg base 1 (ca "Wall") "courses" ["self"] [] (coursesW ca)) : Callee P w K mg base 2 "_law_spans" ["_law_shut_here", "_law_marks_here"] [] (spansS ca) := by
  refine callee_of Df sc_spans (by decide) (by decide) fun f cdv A outer s H EX W hr hG tk hp => ?_
  refine ⟨_, (ss_cons (s_set 2 (q_meth0 C_Wall_courses KC_Wall tk (hr.mono (by decide)) hG (p_nm 0).val) sc_spans.nd)
      (ss_cons (s_set 3 q_dict0T sc_spans.nd)
      (ss_cons (s_for hp rfl (i_list (p_nm 1).val) (g_tup (n := 2) rfl (gs_cons (g_name 4 sc_spans.nd) (gs_cons (g_name 5 sc_spans.nd) gs_nil))) (ss_cons (s_set 6 (q_ixA (hu65 hr) ((q_ixA (hu65 hr) ((q_ixA (hu65 hr) (p_nm 2) ((q_sub (p_nm 4) (q_int).p)).p)).p (q_int).p)).p ((q_sub (p_nm 5) (q_int).p)).p) sc_spans.nd)
      (ss_one (s_dputP 3 (hu65 hr) (q_tup (a_cons (q_ixA (hu65 hr) (p_nm 6) (q_int).p) (a_cons ((q_add ((q_ixA (hu65 hr) (p_nm 6) (q_int).p)).p ((q_ixA (hu65 hr) (p_nm 6) (q_int).p)).p)).fz a_nil))) (p_nm 3) (q_tup (a_cons (p_nm 4).val (a_cons (p_nm 5).val a_nil)))))))
      (ss_one (s_ret (q_fzn 3)))))), fun args Q E hl h => ?_⟩
  clear hl hr hG tk hp W EX H s outer A cdv f Df KC_Wall KN_Wall C_Wall_courses
  obtain ⟨C, rfl, hC, h⟩ := h
  have hml := mks_len (C := C) (k := 1)
  have hCt := hC.2.2.1
  walk_at "nf"
  refine ⟨⟨rfl, rfl⟩, C, rfl, ?_⟩
  walk_at "nf"
  refine .over (mksF C 1) mkD rfl [3, 4, 5, 6] (fun j vs => ∃ a b c, vs = [some (.ow (.dT (((mksF C 1).take j).map mkK)) (((mksF C 1).take j).map (spnF C))), a, b, c]) ⟨[_, _, _, _], rfl, _, _, _, rfl⟩ ?_ ?_
  · rintro j m vs hj ⟨a1, a2, a3, rfl⟩
    have hm := List.mem_of_getElem? hj
    have hjl := (List.getElem?_eq_some_iff.mp hj).1
    obtain ⟨i, i', c, p, hi, hi', hme, e1, e2⟩ := mks_at hm
    have hm1 : m.1 = (i : Int) + 1 := by rw [hme]
    have hm2 : m.2 = (i' : Int) + 1 := by rw [hme]
    have hno : m ∉ (mksF C 1).take j := fun z => by
      obtain ⟨a, ha⟩ := List.getElem?_of_mem z
      have hal := (List.getElem?_eq_some_iff.mp ha).1
      rw [List.length_take] at hal
      rw [List.getElem?_take_of_lt (by omega)] at ha
      have e3 := (List.getElem?_eq_some_iff.mp ha).2
      have e4 := (List.getElem?_eq_some_iff.mp hj).2
      have := List.pairwise_iff_getElem.mp (mks_ris (C := C) (k := 1)) a j (by omega) hjl (by omega)
      rw [e3, e4] at this
      exact pLt_irr this
    refine ⟨rfl, ?_⟩
    walk_at "nf"
    refine ⟨coD c, at_int (by omega) (by rw [show (m.1 - 1).toNat = i by omega, List.getElem?_map, hi]; rfl), _, at_int (by decide) rfl, plD p, at_int (by omega) (by rw [show (m.2 - 1).toNat = i' by omega, List.getElem?_map, hi']; rfl), ?_⟩
    walk_at "nf"
    refine ⟨_, at_int (by decide) rfl, _, at_int (by decide) rfl, _, at_int (by decide) rfl, rfl, ?_⟩
    refine ⟨_, mkK m, rfl, rfl, szL (by rw [List.length_map, List.length_take]; omega), ?_⟩
    exact ⟨[_, _, _, _], rfl, _, _, _, by
      have es : spnF C m = .nd .tup [.int p.x, .int (p.x + p.w)] := by unfold spnF; rw [e2]
      rw [List.take_succ, hj, Option.toList_some, List.map_append, List.map_append, pKs, pVs, has_mk hno, if_neg (by decide), if_neg (by decide), List.map_cons, List.map_nil, List.map_cons, List.map_nil, es]; try rfl⟩
  · rintro vs ⟨a1, a2, a3, rfl⟩
    rw [List.take_length]
    exact h
theorem ok_related (Df : DefAt K mg "_law_related" s_related ["_law_shut_here", "_law_marks_here"]) (B : Bt mg) (KC_Wall : Cls K (ca "Wall")) (KN_Wall : ∀ x, x ∈ (["kept_courses"] : List Str) → NoAttr K (ca "Wall") x) (C_spans : Callee P w K mg base 2 "_law_spans" ["_law_shut_here", "_law_marks_here"] [] (spansS ca)) (C_Wall_beneath : CalleeM P w K mg base 7 (ca "Wall") "beneath" ["self", "mark"] [] (beneathW ca)) (C_Wall_upon : CalleeM P w K mg base 7 (ca "Wall") "upon" ["self", "mark"] [] (uponW ca)) (C_alike : Callee P w K mg base 1 "_law_alike" ["_law_found", "_law_due"] [] alikeS) : Callee P w K mg base 8 "_law_related" ["_law_shut_here", "_law_marks_here"] [] (relatedS ca) := by
  refine callee_of Df sc_related (by decide) (by decide) fun f cdv A outer s H EX W hr hG tk hp => ?_
  refine ⟨_, (ss_cons (s_set 2 (q_callC C_spans tk (hr.mono (by decide)) hG (by rfl) (a_cons (p_nm 0).val (a_cons (p_nm 1).val a_nil)) []) sc_related.nd)
      (ss_cons (s_for hp rfl (i_list (p_nm 1).val) (g_name 3 sc_related.nd) (ss_cons (s_set 4 (q_meth C_Wall_beneath KC_Wall tk (hr.mono (by decide)) hG (p_nm 0).val (a_cons (p_nm 3).val a_nil) []) sc_related.nd)
      (ss_cons (s_set 5 (q_meth C_Wall_upon KC_Wall tk (hr.mono (by decide)) hG (p_nm 0).val (a_cons (p_nm 3).val a_nil) []) sc_related.nd)
      (ss_cons (s_for hp rfl (i_list (p_nm 1).val) (g_name 6 sc_related.nd) (ss_cons (s_set 7 (q_lt ((q_bl_ (call_max2 rfl) g_max2 (by rfl) B.max bt_max (a_cons (q_ixA (hu65 hr) ((q_ixA (hu65 hr) (p_nm 2) (p_nm 3))).p (q_int).p) (a_cons (q_ixA (hu65 hr) ((q_ixA (hu65 hr) (p_nm 2) (p_nm 6))).p (q_int).p) a_nil)))).p ((q_bl_ (call_min2 rfl) g_min2 (by rfl) B.min bt_min (a_cons (q_ixA (hu65 hr) ((q_ixA (hu65 hr) (p_nm 2) (p_nm 3))).p (q_int).p) (a_cons (q_ixA (hu65 hr) ((q_ixA (hu65 hr) (p_nm 2) (p_nm 6))).p (q_int).p) a_nil)))).p) sc_related.nd)
      (ss_cons (s_if (t_ne (hu65 hr) ((q_inA (hu65 hr) (p_nm 6) (p_nm 4))).p ((q_and (p_nm 7).val (q_one (q_eq (hu65 hr) ((q_ixA (hu65 hr) (p_nm 6) (q_int).p)).p ((q_sub ((q_ixA (hu65 hr) (p_nm 3) (q_int).p)).p (q_int).p)).p)))).p) (ss_one (s_ret q_bl)) ss_nil)
      (ss_cons (s_if (t_ne (hu65 hr) ((q_inA (hu65 hr) (p_nm 6) (p_nm 5))).p ((q_and (p_nm 7).val (q_one (q_eq (hu65 hr) ((q_ixA (hu65 hr) (p_nm 6) (q_int).p)).p ((q_add ((q_ixA (hu65 hr) (p_nm 3) (q_int).p)).p (q_int).p)).p)))).p) (ss_one (s_ret q_bl)) ss_nil)
      (ss_one (s_if (t_ne (hu65 hr) ((q_inA (hu65 hr) (p_nm 6) (p_nm 4))).p ((q_inA (hu65 hr) (p_nm 3) ((q_meth C_Wall_upon KC_Wall tk (hr.mono (by decide)) hG (p_nm 0).val (a_cons (p_nm 6).val a_nil) [])).p)).p) (ss_one (s_ret q_bl)) ss_nil))))))
      (ss_cons (s_if (t_not (t_val (q_callC C_alike tk (hr.mono (by decide)) hG (by rfl) (a_cons ((q_lst (a_cons (p_nm 4).val (a_cons (p_nm 5).val a_nil)))).fz (a_cons ((q_lst (a_cons ((q_sortSetP rfl (hu65 hr) (by rfl) B.sorted (by rfl) B.set (p_nm 4))).fz (a_cons ((q_sortSetP rfl (hu65 hr) (by rfl) B.sorted (by rfl) B.set (p_nm 5))).fz a_nil)))).fz a_nil)) []))) (ss_one (s_ret q_bl)) ss_nil)
      (ss_one (s_if (t_not (t_val (q_b1 (cr_all rfl) g_all (by rfl) B.all bt_all ((q_lc (own := [("_law_other", 6)]) rfl sc_related.nd (i_list ((q_add (p_nm 4) (p_nm 5))).fz) (blkOk_by (by rfl)) (fun _ _ _ _ _ => (g_name 6 sc_related.nd)) (fun _ _ _ _ _ => ts_nil) (fun _ _ _ _ _ => (q_inA (hu65 hr) (p_nm 6) (p_nm 1))))).p))) (ss_one (s_ret q_bl)) ss_nil)))))))
      (ss_one (s_ret q_bl)))), fun args Q E hl h => ?_⟩
  clear hl hr hG tk hp W EX H s outer A cdv f Df B KC_Wall KN_Wall C_spans C_Wall_beneath C_Wall_upon C_alike
  obtain ⟨C, rfl, hC, h⟩ := h
  have hml := mks_len (C := C) (k := 1)
  have hCt := hC.2.2.1
  walk_at "nf"
  refine ⟨C, rfl, hC, ?_⟩
  walk_at "nf"
  refine .over (mksF C 1) mkD rfl [3, 4, 5, 6, 7] (fun j vs => ∃ a b c d e, vs = [a, b, c, d, e]) ⟨[_, _, _, _, _], rfl, _, _, _, _, _, rfl⟩ ?_ ?_
  · rintro j m vs hj ⟨a1, a2, a3, a4, a5, rfl⟩
    have hm := List.mem_of_getElem? hj
    obtain ⟨_, _, _, p, k1, k2, _, _, hp⟩ := mks_at hm
    walk_at "nf"
    refine ⟨⟨rfl, rfl⟩, C, m, rfl, hC, hm, ?_⟩
    walk_at "nf"
    refine ⟨⟨rfl, rfl⟩, C, m, rfl, hC, hm, ?_⟩
    walk_at "nf"
    refine .over (mksF C 1) mkD rfl [6, 7] (fun j vs => ∃ d e, vs = [d, e]) ⟨[_, _], rfl, a4, a5, rfl⟩ ?_ ?_
    · rintro j o vs hj ⟨d, e, rfl⟩
      have ho := List.mem_of_getElem? hj
      obtain ⟨_, _, _, q, k3, k4, _, _, hq⟩ := mks_at ho
      have sp : spnF C m = .nd .tup [.int p.x, .int (p.x + p.w)] := by unfold spnF; rw [hp]
      have sq : spnF C o = .nd .tup [.int q.x, .int (q.x + q.w)] := by unfold spnF; rw [hq]
      have lm := look_spn (C := C) hm
      have lo := look_spn (C := C) ho
      rw [sp] at lm
      rw [sq] at lo
      have dm : dGet (.fz (spnsD C (mksF C 1))) (.fz (mkD m)) = some (some (.nd .tup [.int p.x, .int (p.x + p.w)])) := by
        show some (QV.look _ _ (mkK m)) = _
        rw [lm]
      have dO : dGet (.fz (spnsD C (mksF C 1))) (.fz (mkD o)) = some (some (.nd .tup [.int q.x, .int (q.x + q.w)])) := by
        show some (QV.look _ _ (mkK o)) = _
        rw [lo]
      have hpw : 0 < p.w := ((hC.2.1 _ (List.mem_of_getElem? k1)).2.1 p (List.mem_of_getElem? k2)).2.1.1
      have hqw : 0 < q.w := ((hC.2.1 _ (List.mem_of_getElem? k3)).2.1 q (List.mem_of_getElem? k4)).2.1.1
      have esh : decide (max p.x q.x < min (p.x + p.w) (q.x + q.w)) = shB p q := by
        unfold shB
        rw [← Bool.decide_and]
        exact decide_eq_decide.mpr (by omega)
      have b1 : decide (o ∈ bsF C m (m.1 - 1)) = (shB p q && decide (o.1 = m.1 - 1)) := by
        rw [Bool.eq_iff_iff, decide_eq_true_eq, Bool.and_eq_true, decide_eq_true_eq, mem_bs hp ho hq, And.comm]
      have b2 : decide (o ∈ bsF C m (m.1 + 1)) = (shB p q && decide (o.1 = m.1 + 1)) := by
        rw [Bool.eq_iff_iff, decide_eq_true_eq, Bool.and_eq_true, decide_eq_true_eq, mem_bs hp ho hq, And.comm]
      have b3 : decide (m ∈ bsF C o (o.1 + 1)) = decide (o ∈ bsF C m (m.1 - 1)) := by
        rw [Bool.eq_iff_iff, decide_eq_true_eq, decide_eq_true_eq, mem_bs hp ho hq, mem_bs hq hm hp, shB_comm]
        constructor
        · rintro ⟨a, b⟩; exact ⟨by omega, b⟩
        · rintro ⟨a, b⟩; exact ⟨by omega, b⟩
      walk_at "nf"
      refine ⟨_, dm, _, at_int (by decide) rfl, _, dO, _, at_int (by decide) rfl, _, dm, _, at_int (by decide) rfl, _, dO, _, at_int (by decide) rfl, ?_⟩
      walk_at "nf"
      refine ⟨.inr ⟨pl_mk, pls_mks⟩, fun z => ?_, fun z => ?_⟩
      all_goals have z : decide (max p.x q.x < min (p.x + p.w) (q.x + q.w)) = _ := z
      all_goals rw [esh] at z
      · refine ⟨_, at_int (by decide) rfl, _, at_int (by decide) rfl, .inl rfl, .inl rfl, fun z2 => ?_, fun _ => ?_⟩
        · exfalso
          have z2 : (!(decide (((bsF C m (m.1 - 1)).map mkD).any (fun z => eqD z (mkD o)) = decide (o.1 = m.1 - 1)))) = true := z2
          rw [any_mks, b1, z, Bool.true_and] at z2
          simp at z2
        refine ⟨.inr ⟨pl_mk, pls_mks⟩, fun z' => ?_, fun z' => ?_⟩
        all_goals have z' : decide (max p.x q.x < min (p.x + p.w) (q.x + q.w)) = _ := z'
        all_goals rw [esh, z] at z'
        rotate_left
        · cases z'
        refine ⟨_, at_int (by decide) rfl, _, at_int (by decide) rfl, .inl rfl, .inl rfl, fun z2 => ?_, fun _ => ?_⟩
        · exfalso
          have z2 : (!(decide (((bsF C m (m.1 + 1)).map mkD).any (fun z => eqD z (mkD o)) = decide (o.1 = m.1 + 1)))) = true := z2
          rw [any_mks, b2, z, Bool.true_and] at z2
          simp at z2
        refine ⟨.inr ⟨pl_mk, pls_mks⟩, ⟨rfl, rfl⟩, C, o, rfl, hC, ho, .inr ⟨pl_mk, pls_mks⟩, .inl rfl, fun z2 => ?_, fun _ => ⟨[_, _], rfl, _, _, rfl⟩⟩
        exfalso
        have z2 : (!(decide (((bsF C m (m.1 - 1)).map mkD).any (fun z => eqD z (mkD o)) = ((bsF C o (o.1 + 1)).map mkD).any (fun z => eqD z (mkD m))))) = true := z2
        rw [any_mks, any_mks, b3] at z2
        simp at z2
      · refine ⟨.inl rfl, fun z2 => ?_, fun _ => ?_⟩
        · exfalso
          have z2 : (!(decide (((bsF C m (m.1 - 1)).map mkD).any (fun z => eqD z (mkD o)) = false))) = true := z2
          rw [any_mks, b1, z, Bool.false_and] at z2
          simp at z2
        refine ⟨.inr ⟨pl_mk, pls_mks⟩, fun z' => ?_, fun z' => ?_⟩
        all_goals have z' : decide (max p.x q.x < min (p.x + p.w) (q.x + q.w)) = _ := z'
        all_goals rw [esh, z] at z'
        · cases z'
        refine ⟨.inl rfl, fun z2 => ?_, fun _ => ?_⟩
        · exfalso
          have z2 : (!(decide (((bsF C m (m.1 + 1)).map mkD).any (fun z => eqD z (mkD o)) = false))) = true := z2
          rw [any_mks, b2, z, Bool.false_and] at z2
          simp at z2
        refine ⟨.inr ⟨pl_mk, pls_mks⟩, ⟨rfl, rfl⟩, C, o, rfl, hC, ho, .inr ⟨pl_mk, pls_mks⟩, .inl rfl, fun z2 => ?_, fun _ => ⟨[_, _], rfl, _, _, rfl⟩⟩
        exfalso
        have z2 : (!(decide (((bsF C m (m.1 - 1)).map mkD).any (fun z => eqD z (mkD o)) = ((bsF C o (o.1 + 1)).map mkD).any (fun z => eqD z (mkD m))))) = true := z2
        rw [any_mks, any_mks, b3] at z2
        simp at z2
    · rintro vs ⟨d, e, rfl⟩
      walk_at "nf"
      have hb1 : ∀ k, ∀ u, u ∈ bsF C m k → (0 ≤ u.1 ∧ u.1 < 64) ∧ (0 ≤ u.2 ∧ u.2 < 64) := fun k u hu => by have := wall_mk24 hC (bs_sub hu); omega
      have hl1 := bs_len (m := m) (k := m.1 - 1) hC
      have hl2 := bs_len (m := m) (k := m.1 + 1) hC
      refine ⟨bsF C m (m.1 - 1), rfl, by omega, hb1 _, fun qs q1 q2 => ?_⟩
      obtain rfl : qs = bsF C m (m.1 - 1) := ris_eq q1 bs_ris q2
      refine ⟨bsF C m (m.1 + 1), rfl, by omega, hb1 _, fun qs q1 q2 => ?_⟩
      obtain rfl : qs = bsF C m (m.1 + 1) := ris_eq q1 bs_ris q2
      have hs : sml _ 64 (.nd .lst [mksD (bsF C m (m.1 - 1)), mksD (bsF C m (m.1 + 1))]) := sml_ls (.cons (sml_bs (n := 61) hC hm) (.cons (sml_bs (n := 61) hC hm) .nil))
      refine ⟨.nd .lst [mksD (bsF C m (m.1 - 1)), mksD (bsF C m (m.1 + 1))], rfl, (sml_al hs (by decide)).1, (sml_al hs (by decide)).2, fun z => (nomatch z), fun _ => ?_⟩
      walk_at "nf"
      refine ⟨szN (by simp; omega), ?_⟩
      refine .each (bsF C m (m.1 - 1) ++ bsF C m (m.1 + 1)) mkD (by rw [List.map_append]; rfl) (fun u => .bl true) (fun i u hi => ⟨fun _ => ?_, fun z => nomatch z⟩) ?_
      · have hu : u ∈ mksF C 1 := by
          rcases List.mem_append.mp (List.mem_of_getElem? hi) with r | r
          · exact bs_sub r
          · exact bs_sub r
        refine ⟨.inr ⟨pl_mk, pls_mks⟩, ?_⟩
        have e : (((mksF C 1).map mkD).any fun z => eqD z (mkD u)) = true := by rw [any_mks]; exact decide_eq_true hu
        exact ⟨by show _ ++ [D.bl (((mksF C 1).map mkD).any fun z => eqD z (mkD u))] = _; rw [e]; exact all_one hi, rfl⟩
      refine ⟨(bsF C m (m.1 - 1) ++ bsF C m (m.1 + 1)).map fun _ => true, by rw [List.map_map]; rfl, ?_⟩
      rw [show (((bsF C m (m.1 - 1) ++ bsF C m (m.1 + 1)).map fun _ => true).all id) = true by rw [List.all_map]; simp]
      refine ⟨fun z => (nomatch z), fun _ => ?_⟩
      exact ⟨[_, _, _, _, _], rfl, _, _, _, _, _, rfl⟩
  · rintro vs ⟨a1, a2, a3, a4, a5, rfl⟩
    exact h
theorem ok_least (Df : DefAt K mg "_law_least" s_least ["_law_shut_here", "_law_marks_here", "_law_some", "_law_told"]) (B : Bt mg) (KC_Wall : Cls K (ca "Wall")) (KN_Wall : ∀ x, x ∈ (["kept_courses"] : List Str) → NoAttr K (ca "Wall") x) (C_alike : Callee P w K mg base 1 "_law_alike" ["_law_found", "_law_due"] [] alikeS) (C_Wall_beneath : CalleeM P w K mg base 7 (ca "Wall") "beneath" ["self", "mark"] [] (beneathW ca)) : Callee P w K mg base 8 "_law_least" ["_law_shut_here", "_law_marks_here", "_law_some", "_law_told"] [] (leastS ca) := by
  refine callee_of Df sc_least (by decide) (by decide) fun f cdv A outer s H EX W hr hG tk hp => ?_
  refine ⟨_, (ss_cons (s_for hp rfl (i_list (p_nm 1).val) (g_name 4 sc_least.nd) (ss_cons (s_set 5 (q_b1 (cr_any rfl) g_any (by rfl) B.any bt_any ((q_lc (own := [("_law_other", 6)]) rfl sc_least.nd (i_list (q_meth C_Wall_beneath KC_Wall tk (hr.mono (by decide)) hG (p_nm 0).val (a_cons (p_nm 4).val a_nil) [])) (blkOk_by (by rfl)) (fun _ _ _ _ _ => (g_name 6 sc_least.nd)) (fun _ _ _ _ _ => ts_nil) (fun _ _ _ _ _ => (q_or (q_inA (hu65 hr) (p_nm 6) (p_nm 2)) (q_one (q_inA (hu65 hr) (p_nm 6) (p_nm 3))))))).p) sc_least.nd)
      (ss_one (s_if (t_ne (hu65 hr) (p_nm 5) ((q_inA (hu65 hr) (p_nm 4) (p_nm 3))).p) (ss_one (s_ret q_bl)) ss_nil))))
      (ss_one (s_ret (q_and (q_callC C_alike tk (hr.mono (by decide)) hG (by rfl) (a_cons (p_nm 3).val (a_cons ((q_sortSetP rfl (hu65 hr) (by rfl) B.sorted (by rfl) B.set (p_nm 3))).fz a_nil)) []) (q_one (q_b1 (cr_all rfl) g_all (by rfl) B.all bt_all ((q_lc (own := [("_law_mark", 4)]) rfl sc_least.nd (i_list (p_nm 3).val) (blkOk_by (by rfl)) (fun _ _ _ _ _ => (g_name 4 sc_least.nd)) (fun _ _ _ _ _ => ts_nil) (fun _ _ _ _ _ => (q_inA (hu65 hr) (p_nm 4) (p_nm 1))))).p)))))), fun args Q E hl h => ?_⟩
  clear hl hr hG tk hp W EX H s outer A cdv f Df B KC_Wall KN_Wall C_alike C_Wall_beneath
  obtain ⟨C, ms, rfl, hC, hl, hms, h⟩ := h
  walk_at "nf"
  refine .over (mksF C 1) mkD rfl [4, 5] (fun j vs => ∃ a b, vs = [a, b]) ⟨[_, _], rfl, _, _, rfl⟩ ?_ ?_
  · rintro j m vs hj ⟨a1, a2, rfl⟩
    have hm := List.mem_of_getElem? hj
    walk_at "nf"
    refine ⟨⟨rfl, rfl⟩, C, m, rfl, hC, hm, ?_⟩
    refine .each (bsF C m (m.1 - 1)) mkD rfl (fun u => .bl (decide (u ∈ ms) || decide (u ∈ heldF C ms))) (fun i u hi => ⟨fun _ => ?_, fun z => nomatch z⟩) ?_
    · refine ⟨.inr ⟨pl_mk, pls_mks⟩, fun z => ?_, fun z => ?_⟩
      · have z : ((ms.map mkD).any fun z => eqD z (mkD u)) = true := z
        rw [any_mks] at z
        have e : D.bl (decide (u ∈ ms) || decide (u ∈ heldF C ms)) = .bl true := by rw [z, Bool.true_or]
        exact ⟨by rw [← all_one hi, e]; try rfl, rfl⟩
      · have z : ((ms.map mkD).any fun z => eqD z (mkD u)) = false := z
        rw [any_mks] at z
        refine ⟨.inr ⟨pl_mk, pls_mks⟩, ?_⟩
        have e : D.bl (decide (u ∈ ms) || decide (u ∈ heldF C ms)) = .bl (((heldF C ms).map mkD).any fun z => eqD z (mkD u)) := by rw [z, Bool.false_or, any_mks]
        exact ⟨by rw [← all_one hi, e]; try rfl, rfl⟩
    refine ⟨(bsF C m (m.1 - 1)).map fun u => decide (u ∈ ms) || decide (u ∈ heldF C ms), by rw [List.map_map]; rfl, ?_⟩
    rw [List.any_map]
    walk_at "nf"
    have hh := held_mem (ms := ms) hm
    refine ⟨.inr ⟨pl_mk, pls_mks⟩, .inl rfl, fun z => ?_, fun z => ?_⟩
    · exfalso
      have z : (!(decide ((bsF C m (m.1 - 1)).any (fun u => decide (u ∈ ms) || decide (u ∈ heldF C ms)) = ((heldF C ms).map mkD).any fun z => eqD z (mkD m)))) = true := z
      rw [any_mks] at z
      have e : (bsF C m (m.1 - 1)).any (fun u => decide (u ∈ ms) || decide (u ∈ heldF C ms)) = decide (m ∈ heldF C ms) := by
        rw [Bool.eq_iff_iff, decide_eq_true_eq]; exact hh.symm
      rw [e] at z
      simp at z
    · exact ⟨[_, _], rfl, _, _, rfl⟩
  · rintro vs ⟨a1, a2, rfl⟩
    have hb : ∀ p, p ∈ heldF C ms → (0 ≤ p.1 ∧ p.1 < 64) ∧ (0 ≤ p.2 ∧ p.2 < 64) := fun p hp => by have := wall_mk24 hC (held_sub hp); omega
    have hln := held_len (ms := ms) hC
    have hsh : sml 6792 64 (mksD (heldF C ms)) := sml_mks hC (fun m hm => held_sub hm) hln
    walk_at "nf"
    refine ⟨heldF C ms, rfl, by omega, hb, fun qs q1 q2 => ?_⟩
    have eq : qs = heldF C ms := ris_eq q1 held_ris q2
    subst eq
    refine ⟨mksD (heldF C ms), rfl, (sml_al hsh (by decide)).1, (sml_al hsh (by decide)).2, fun _ => ?_, fun z => nomatch z⟩
    refine .each (heldF C ms) mkD rfl (fun u => .bl true) (fun i u hi => ⟨fun _ => ?_, fun z => nomatch z⟩) ?_
    · have hu : u ∈ mksF C 1 := held_sub (List.mem_of_getElem? hi)
      refine ⟨.inr ⟨pl_mk, pls_mks⟩, ?_⟩
      have e : (((mksF C 1).map mkD).any fun z => eqD z (mkD u)) = true := by rw [any_mks]; exact decide_eq_true hu
      exact ⟨by show _ ++ [D.bl (((mksF C 1).map mkD).any fun z => eqD z (mkD u))] = _; rw [e]; exact all_one hi, rfl⟩
    refine ⟨(heldF C ms).map fun _ => true, by rw [List.map_map]; rfl, ?_⟩
    rw [show (((heldF C ms).map fun _ => true).all id) = true by rw [List.all_map]; simp]
    exact h

theorem ok_law (Df : DefAt K mg "law" s_law ["_law_script"]) (B : Bt mg) (KC_Wall : Cls K (ca "Wall")) (KN_Wall : ∀ x, x ∈ (["kept_courses"] : List Str) → NoAttr K (ca "Wall") x) (C_bag : Callee P w K mg base 1 "_law_bag" ["_law_script"] [] bagS) (C_shut : Callee P w K mg base 5 "_law_shut" ["_law_bag_here"] [0] shutS) (C_Wall_init : CalleeK P w K mg base 8 "Wall" (ca "Wall") ["self", "courses"] (initW ca)) (C_Wall_marks : CalleeM P w K mg base 1 (ca "Wall") "marks" ["self"] [] (marksW ca)) (C_copy : Callee P w K mg base 1 "_law_copy" ["_law_courses"] [] copyW) (C_Wall_held_up : CalleeM P w K mg base 8 (ca "Wall") "held_up" ["self", "marks"] [] (heldW ca)) (C_alike : Callee P w K mg base 1 "_law_alike" ["_law_found", "_law_due"] [] alikeS) (C_related : Callee P w K mg base 8 "_law_related" ["_law_shut_here", "_law_marks_here"] [] (relatedS ca)) (C_take : Callee P w K mg base 1 "_law_take" ["_law_bag_here", "_law_many"] [0] takeS) (C_marks : Callee P w K mg base 1 "_law_marks" ["_law_courses"] [] lmarksS) (C_least : Callee P w K mg base 8 "_law_least" ["_law_shut_here", "_law_marks_here", "_law_some", "_law_told"] [] (leastS ca)) : Callee P w K mg base 10 "law" ["_law_script"] [] (lawS 63) := by
  refine callee_of Df sc_law (by decide) (by decide) fun f cdv A outer s H EX W hr hG tk hp => ?_
  refine ⟨_, (ss_cons (s_set 1 (q_callC C_bag tk (hr.mono (by decide)) hG (by rfl) (a_cons (p_nm 0).val a_nil) []) sc_law.nd)
      (ss_cons (s_set 2 (q_callC C_shut tk (hr.mono (by decide)) hG (by rfl) (a_own 1 a_nil) [1]) sc_law.nd)
      (ss_cons (s_set 3 ((q_make C_Wall_init tk (hr.mono (by decide)) hG (by rfl) (a_cons (q_callC C_copy tk (hr.mono (by decide)) hG (by rfl) (a_cons (p_nm 2).val a_nil) []) a_nil))).fz sc_law.nd)
      (ss_cons (s_set 4 (q_meth0 C_Wall_marks KC_Wall tk (hr.mono (by decide)) hG (p_nm 3).val) sc_law.nd)
      (ss_cons (s_if ((w_orM (t_not (t_val (q_callC C_alike tk (hr.mono (by decide)) hG (by rfl) (a_cons (p_nm 4).val (a_cons (q_callC C_marks tk (hr.mono (by decide)) hG (by rfl) (a_cons (p_nm 2).val a_nil) []) a_nil)) []))) (w_or1 (t_not (t_val (q_callC C_related tk (hr.mono (by decide)) hG (by rfl) (a_cons (p_nm 3).val (a_cons (p_nm 4).val a_nil)) [])))))).t (ss_one (s_ret q_bl)) ss_nil)
      (ss_cons (s_for hp rfl (i_rng (by rfl) B.range q_int) (g_name 5 sc_law.nd) (ss_cons (s_set 6 (q_add (q_int).p ((q_callC C_take tk (hr.mono (by decide)) hG (by rfl) (a_own 1 (a_cons q_int a_nil)) [1])).p) sc_law.nd)
      (ss_cons (s_setLcF 7 (own := [("_law_mark", 8)]) rfl sc_law.nd (i_list (p_nm 4).val) (blkOk_by (by rfl)) (fun _ _ _ _ _ => (g_name 8 sc_law.nd)) (fun _ _ _ _ _ => (ts_one (t_eq (hu65 hr) ((q_callC C_take takes0 (hr.mono (by decide)) hG (by rfl) (a_own 1 (a_cons (p_nm 6).val a_nil)) [1])).p (q_int).p))) (fun _ _ _ _ _ => (p_nm 8).val))
      (ss_cons (s_setLcF 9 (own := [("_law_mark", 8)]) rfl sc_law.nd (i_list (p_nm 4).val) (blkOk_by (by rfl)) (fun _ _ _ _ _ => (g_name 8 sc_law.nd)) (fun _ _ _ _ _ => (ts_one (t_eq (hu65 hr) ((q_callC C_take takes0 (hr.mono (by decide)) hG (by rfl) (a_own 1 (a_cons q_int a_nil)) [1])).p (q_int).p))) (fun _ _ _ _ _ => (p_nm 8).val))
      (ss_cons (s_set 10 ((q_lst (a_cons (q_meth C_Wall_held_up KC_Wall tk (hr.mono (by decide)) hG (p_nm 3).val (a_cons ((q_ty1 call_list_of g_list (by rfl) B.list bt_list (p_nm 7))).fz a_nil) []) (a_cons (q_meth C_Wall_held_up KC_Wall tk (hr.mono (by decide)) hG (p_nm 3).val (a_cons ((q_ty1 call_list_of g_list (by rfl) B.list bt_list (p_nm 9))).fz a_nil) []) a_nil)))).fz sc_law.nd)
      (ss_cons (s_if ((w_orM (t_not (t_val (q_callC C_least tk (hr.mono (by decide)) hG (by rfl) (a_cons (p_nm 3).val (a_cons (p_nm 4).val (a_cons (p_nm 7).val (a_cons (q_ixA (hu65 hr) (p_nm 10) (q_int).p) a_nil)))) []))) (w_or1 (t_not (t_val (q_callC C_least tk (hr.mono (by decide)) hG (by rfl) (a_cons (p_nm 3).val (a_cons (p_nm 4).val (a_cons (p_nm 9).val (a_cons (q_ixA (hu65 hr) (p_nm 10) (q_int).p) a_nil)))) [])))))).t (ss_one (s_ret q_bl)) ss_nil)
      (ss_cons (s_set 11 (q_meth C_Wall_held_up KC_Wall tk (hr.mono (by decide)) hG (p_nm 3).val (a_cons ((q_slice ((q_add (p_nm 9) (p_nm 7))).p o_none (o_some q_int))).fz a_nil) []) sc_law.nd)
      (ss_one (s_if ((w_andM (t_lt ((q_add ((q_b1 c_lenB g_lenB (by rfl) B.len bt_len (p_nm 7))).p ((q_b1 c_lenB g_lenB (by rfl) B.len bt_len (p_nm 9))).p)).p (q_int).p) (w_and1 (t_not (t_val (q_callC C_alike tk (hr.mono (by decide)) hG (by rfl) (a_cons (p_nm 11).val (a_cons ((q_sortSetP rfl (hu65 hr) (by rfl) B.sorted (by rfl) B.set ((q_add ((q_ixA (hu65 hr) (p_nm 10) (q_int).p)).p ((q_ixA (hu65 hr) (p_nm 10) (q_int).p)).p)).p)).fz a_nil)) [])))))).t (ss_one (s_ret q_bl)) ss_nil)))))))))
      (ss_one (s_ret q_bl)))))))), fun args Q E hl h => ?_⟩
  clear hl hr hG tk hp W EX H s outer A cdv f Df B KC_Wall KN_Wall C_bag C_shut C_Wall_init C_Wall_marks C_copy C_Wall_held_up C_alike C_related C_take C_marks C_least
  obtain ⟨ns, rfl, hn, h⟩ := h
  walk_at "nf"
  refine ⟨ns, rfl, hn, fun t hb => ?_⟩
  walk_at "nf"
  refine ⟨_, rfl, hb, fun C t1 hC hb1 => ?_⟩
  walk_at "nf"
  refine ⟨C, rfl, ?_⟩
  refine ⟨C, rfl, hC, rfl, _, rfl, ?_⟩
  walk_at "nf"
  have hC1 := hC.1
  have hCt := hC.2.2.1
  have hml := mks_len (C := C) (k := 1)
  refine ⟨⟨rfl, rfl⟩, C, rfl, by omega, ?_⟩
  walk_at "nf"
  have hsm : sml _ 64 (mksD (mksF C 1)) := sml_mks (n := 62) hC (fun m hm => hm) (by omega)
  refine ⟨C, rfl, by omega, by omega, mksD (mksF C 1), rfl, (sml_al hsm (by decide)).1, (sml_al hsm (by decide)).2, false, fun _ => ⟨C, rfl, hC, rfl, rfl⟩, fun z => (nomatch z), fun _ => ?_⟩
  walk_at "nf"
  refine ⟨by decide, by decide, ?_⟩
  refine .rng [1, 5, 6, 7, 9, 10, 11] (fun j vs => ∃ t a b c d e f, vs = [some t, a, b, c, d, e, f] ∧ IsBag t) ⟨[_, _, _, _, _, _, _], rfl, _, _, _, _, _, _, _, rfl, hb1⟩ ?_ ?_
  · rintro j vs hj ⟨t, a1, a2, a3, a4, a5, a6, rfl, hb⟩
    rw [Int.zero_add]
    walk_at "nf"
    refine ⟨_, _, rfl, hb, by decide, by decide, fun v t2 v0 v1 hb2 => ?_⟩
    have cmp : ∀ (rare : Int), 1 ≤ rare → rare ≤ 6 → True := fun _ _ _ => trivial
    refine .fr [1] (fun j acc vs => ∃ (t : T) (ps : List Mk), vs = [some t] ∧ acc = ps.map mkD ∧ IsBag t ∧ ps.length ≤ j ∧ ∀ p, p ∈ ps → p ∈ mksF C 1) ⟨[_], rfl, t2, [], rfl, rfl, hb2, by simp, by simp⟩ ?_ ?_
    · rintro i d acc vs hd ⟨t, ps, rfl, rfl, hb, hpl, hps⟩
      obtain ⟨m, hm, rfl⟩ := map_at hd
      have hmm := List.mem_of_getElem? hm
      walk_at "nf"
      refine ⟨_, _, rfl, hb, by omega, by omega, fun u t3 u0 u1 hb3 => ?_⟩
      refine ⟨.inl rfl, fun z => ?_, fun z => ?_⟩
      · exact ⟨[_], rfl, t3, ps ++ [m], rfl, by rw [List.map_append]; rfl, hb3, by simp; omega, fun p hp => by
          rcases List.mem_append.mp hp with q | q
          · exact hps p q
          · simp at q; subst q; exact hmm⟩
      · exact ⟨[_], rfl, t3, ps, rfl, rfl, hb3, by omega, hps⟩
    rintro acc vs ⟨t3, as, rfl, rfl, hb3, hal, has⟩
    have hal : as.length ≤ ((mksF C 1).map mkD).length := hal
    rw [List.length_map] at hal
    walk_at "nf"
    refine .fr [1] (fun j acc vs => ∃ (t : T) (ps : List Mk), vs = [some t] ∧ acc = ps.map mkD ∧ IsBag t ∧ ps.length ≤ j ∧ ∀ p, p ∈ ps → p ∈ mksF C 1) ⟨[_], rfl, t3, [], rfl, rfl, hb3, by simp, by simp⟩ ?_ ?_
    · rintro i d acc vs hd ⟨t, ps, rfl, rfl, hb, hpl, hps⟩
      obtain ⟨m, hm, rfl⟩ := map_at hd
      have hmm := List.mem_of_getElem? hm
      walk_at "nf"
      refine ⟨_, _, rfl, hb, by decide, by decide, fun u t4 u0 u1 hb4 => ?_⟩
      refine ⟨.inl rfl, fun z => ?_, fun z => ?_⟩
      · exact ⟨[_], rfl, t4, ps ++ [m], rfl, by rw [List.map_append]; rfl, hb4, by simp; omega, fun p hp => by
          rcases List.mem_append.mp hp with q | q
          · exact hps p q
          · simp at q; subst q; exact hmm⟩
      · exact ⟨[_], rfl, t4, ps, rfl, rfl, hb4, by omega, hps⟩
    rintro acc vs ⟨t4, bs, rfl, rfl, hb4, hbl, hbs⟩
    have hbl : bs.length ≤ ((mksF C 1).map mkD).length := hbl
    rw [List.length_map] at hbl
    walk_at "nf"
    refine ⟨⟨rfl, rfl⟩, C, as, rfl, hC, by omega, has, ⟨rfl, rfl⟩, C, bs, rfl, hC, by omega, hbs, ?_⟩
    have hh1 := held_len (ms := as) hC
    have hh2 := held_len (ms := bs) hC
    refine ⟨_, at_int (by decide) rfl, C, as, rfl, hC, by omega, has, false, fun _ => ⟨_, at_int (by decide) rfl, C, bs, rfl, hC, by omega, hbs, rfl, rfl⟩, fun z => (nomatch z), fun _ => ?_⟩
    walk_at "nf"
    refine ⟨⟨rfl, rfl⟩, szN (by simp; omega), ?_⟩
    refine ⟨C, (bs ++ as).take 24, by
      show [_, T.fz (.nd .lst (cutL (bs.map mkD ++ as.map mkD) none (some (24 : Int))))] = _
      rw [cut_to (by decide), ← List.map_append, ← List.map_take]; rfl, hC, by rw [List.length_take]; omega, fun m hm => by
      rcases List.mem_append.mp (List.mem_of_mem_take hm) with q | q
      · exact hbs m q
      · exact has m q, ?_⟩
    walk_at "nf"
    have hsb : sml 6792 64 (mksD (heldF C (bs ++ as))) := sml_mks hC (fun m hm => held_sub hm) (held_len hC)
    refine ⟨false, fun z => ?_, fun z => ?_, fun _ => ?_⟩
    · have z : decide (((((as.map mkD).length : Nat) : Int) + (((bs.map mkD).length : Nat) : Int)) < 25) = true := z
      rw [List.length_map, List.length_map, decide_eq_true_eq] at z
      rw [List.take_of_length_le (by rw [List.length_append]; omega)]
      refine ⟨_, at_int (by decide) rfl, _, at_int (by decide) rfl, szN (by simp; omega), ?_⟩
      refine ⟨heldF C as ++ heldF C bs, by rw [List.map_append]; rfl, by rw [List.length_append]; omega, fun p hp => ?_, fun qs q1 q2 => ?_⟩
      · rcases List.mem_append.mp hp with r | r
        · have := wall_mk24 hC (held_sub r); omega
        · have := wall_mk24 hC (held_sub r); omega
      · obtain rfl : qs = heldF C (bs ++ as) := ris_eq q1 held_ris fun m => by
          rw [q2, List.mem_append]
          constructor
          · intro hm
            have hmm : m ∈ mksF C 1 := hm.elim held_sub held_sub
            have hmb := wall_mark hC hmm
            exact (held_union 6 (by omega) hmm).mpr hm.symm
          · intro hm
            have hmm : m ∈ mksF C 1 := held_sub hm
            have hmb := wall_mark hC hmm
            exact ((held_union 6 (by omega) hmm).mp hm).symm
        exact ⟨mksD (heldF C (bs ++ as)), rfl, (sml_al hsb (by decide)).1, (sml_al hsb (by decide)).2, rfl, rfl⟩
    · rw [Bool.and_false] at z; cases z
    · exact ⟨[_, _, _, _, _, _, _], rfl, t4, _, _, _, _, _, _, rfl, hb4⟩
  · rintro vs ⟨t, a1, a2, a3, a4, a5, a6, rfl, hb⟩
    exact h

end
theorem all_mk {P : Program} {w : World} {K : PySem.W.Frag} {h : Heap} {mg : Str → Option Value} (X : K.In h) (G : h.Ns mainGlobals mg) (base : Heap)
    {D_Wall : Addr}
    {f0 : Addr} {od0 an0 : Option Addr} {sl0 : Array (Option Value)} {oc0 kV0 dc0 pm0 cd0 ct0 : Value}
    {f1 : Addr} {od1 an1 : Option Addr} {sl1 : Array (Option Value)} {oc1 kV1 dc1 pm1 cd1 ct1 : Value}
    {f2 : Addr} {od2 an2 : Option Addr} {sl2 : Array (Option Value)} {oc2 kV2 dc2 pm2 cd2 ct2 : Value}
    {f3 : Addr} {od3 an3 : Option Addr} {sl3 : Array (Option Value)} {oc3 kV3 dc3 pm3 cd3 ct3 : Value}
    {f4 : Addr} {od4 an4 : Option Addr} {sl4 : Array (Option Value)} {oc4 kV4 dc4 pm4 cd4 ct4 : Value}
    {f5 : Addr} {od5 an5 : Option Addr} {sl5 : Array (Option Value)} {oc5 kV5 dc5 pm5 cd5 ct5 : Value}
    {f6 : Addr} {od6 an6 : Option Addr} {sl6 : Array (Option Value)} {oc6 kV6 dc6 pm6 cd6 ct6 : Value}
    {f7 : Addr} {od7 an7 : Option Addr} {sl7 : Array (Option Value)} {oc7 kV7 dc7 pm7 cd7 ct7 : Value}
    {f8 : Addr} {od8 an8 : Option Addr} {sl8 : Array (Option Value)} {oc8 kV8 dc8 pm8 cd8 ct8 : Value}
    {f9 : Addr} {od9 an9 : Option Addr} {sl9 : Array (Option Value)} {oc9 kV9 dc9 pm9 cd9 ct9 : Value}
    {f10 : Addr} {od10 an10 : Option Addr} {sl10 : Array (Option Value)} {oc10 kV10 dc10 pm10 cd10 ct10 : Value}
    {f11 : Addr} {od11 an11 : Option Addr} {sl11 : Array (Option Value)} {oc11 kV11 dc11 pm11 cd11 ct11 : Value}
    {f12 : Addr} {od12 an12 : Option Addr} {sl12 : Array (Option Value)} {oc12 kV12 dc12 pm12 cd12 ct12 : Value}
    {f13 : Addr} {od13 an13 : Option Addr} {sl13 : Array (Option Value)} {oc13 kV13 dc13 pm13 cd13 ct13 : Value}
    {f14 : Addr} {od14 an14 : Option Addr} {sl14 : Array (Option Value)} {oc14 kV14 dc14 pm14 cd14 ct14 : Value}
    {f15 : Addr} {od15 an15 : Option Addr} {sl15 : Array (Option Value)} {oc15 kV15 dc15 pm15 cd15 ct15 : Value}
    {f16 : Addr} {od16 an16 : Option Addr} {sl16 : Array (Option Value)} {oc16 kV16 dc16 pm16 cd16 ct16 : Value}
    {f17 : Addr} {od17 an17 : Option Addr} {sl17 : Array (Option Value)} {oc17 kV17 dc17 pm17 cd17 ct17 : Value}
    {f18 : Addr} {od18 an18 : Option Addr} {sl18 : Array (Option Value)} {oc18 kV18 dc18 pm18 cd18 ct18 : Value}
    {f19 : Addr} {od19 an19 : Option Addr} {sl19 : Array (Option Value)} {oc19 kV19 dc19 pm19 cd19 ct19 : Value}
    {f20 : Addr} {od20 an20 : Option Addr} {sl20 : Array (Option Value)} {oc20 kV20 dc20 pm20 cd20 ct20 : Value}
    {f21 : Addr} {od21 an21 : Option Addr} {sl21 : Array (Option Value)} {oc21 kV21 dc21 pm21 cd21 ct21 : Value}
    {f22 : Addr} {od22 an22 : Option Addr} {sl22 : Array (Option Value)} {oc22 kV22 dc22 pm22 cd22 ct22 : Value}
    {f23 : Addr} {od23 an23 : Option Addr} {sl23 : Array (Option Value)} {oc23 kV23 dc23 pm23 cd23 ct23 : Value}
    {f24 : Addr} {od24 an24 : Option Addr} {sl24 : Array (Option Value)} {oc24 kV24 dc24 pm24 cd24 ct24 : Value}
    {f25 : Addr} {od25 an25 : Option Addr} {sl25 : Array (Option Value)} {oc25 kV25 dc25 pm25 cd25 ct25 : Value}
    {f26 : Addr} {od26 an26 : Option Addr} {sl26 : Array (Option Value)} {oc26 kV26 dc26 pm26 cd26 ct26 : Value}
    {f27 : Addr} {od27 an27 : Option Addr} {sl27 : Array (Option Value)} {oc27 kV27 dc27 pm27 cd27 ct27 : Value}
    {f28 : Addr} {od28 an28 : Option Addr} {sl28 : Array (Option Value)} {oc28 kV28 dc28 pm28 cd28 ct28 : Value}
    {f29 : Addr} {od29 an29 : Option Addr} {sl29 : Array (Option Value)} {oc29 kV29 dc29 pm29 cd29 ct29 : Value}
    {f30 : Addr} {od30 an30 : Option Addr} {sl30 : Array (Option Value)} {oc30 kV30 dc30 pm30 cd30 ct30 : Value}
    {f31 : Addr} {od31 an31 : Option Addr} {sl31 : Array (Option Value)} {oc31 kV31 dc31 pm31 cd31 ct31 : Value}
    {f32 : Addr} {od32 an32 : Option Addr} {sl32 : Array (Option Value)} {oc32 kV32 dc32 pm32 cd32 ct32 : Value}
    {f33 : Addr} {od33 an33 : Option Addr} {sl33 : Array (Option Value)} {oc33 kV33 dc33 pm33 cd33 ct33 : Value}
    {f34 : Addr} {od34 an34 : Option Addr} {sl34 : Array (Option Value)} {oc34 kV34 dc34 pm34 cd34 ct34 : Value}
    {f35 : Addr} {od35 an35 : Option Addr} {sl35 : Array (Option Value)} {oc35 kV35 dc35 pm35 cd35 ct35 : Value}
    {f36 : Addr} {od36 an36 : Option Addr} {sl36 : Array (Option Value)} {oc36 kV36 dc36 pm36 cd36 ct36 : Value}
    {f37 : Addr} {od37 an37 : Option Addr} {sl37 : Array (Option Value)} {oc37 kV37 dc37 pm37 cd37 ct37 : Value}
    {f38 : Addr} {od38 an38 : Option Addr} {sl38 : Array (Option Value)} {oc38 kV38 dc38 pm38 cd38 ct38 : Value}
    (a0 : PySem.W.nsIn K mainGlobals "is_whole" = some (some (.ref f0))) (l0 : K.lookup f0 = some ⟨oc0, od0, .func (PySem.W.fnOf "is_whole" "is_whole" (defArgs s_is_whole) (defBody s_is_whole) (defScope s_is_whole) .none kV0 dc0 pm0 an0 cd0 ct0), sl0⟩) (c0 : PySem.W.codeIn K cd0 "is_whole" = true) (k0 : PySem.W.keepIn K (.ref f0) = true)
    (a1 : PySem.W.nsIn K mainGlobals "is_between" = some (some (.ref f1))) (l1 : K.lookup f1 = some ⟨oc1, od1, .func (PySem.W.fnOf "is_between" "is_between" (defArgs s_is_between) (defBody s_is_between) (defScope s_is_between) .none kV1 dc1 pm1 an1 cd1 ct1), sl1⟩) (c1 : PySem.W.codeIn K cd1 "is_between" = true) (k1 : PySem.W.keepIn K (.ref f1) = true)
    (a2 : PySem.W.nsIn K mainGlobals "are_between" = some (some (.ref f2))) (l2 : K.lookup f2 = some ⟨oc2, od2, .func (PySem.W.fnOf "are_between" "are_between" (defArgs s_are_between) (defBody s_are_between) (defScope s_are_between) .none kV2 dc2 pm2 an2 cd2 ct2), sl2⟩) (c2 : PySem.W.codeIn K cd2 "are_between" = true) (k2 : PySem.W.keepIn K (.ref f2) = true)
    (a3 : PySem.W.nsIn K mainGlobals "is_measure" = some (some (.ref f3))) (l3 : K.lookup f3 = some ⟨oc3, od3, .func (PySem.W.fnOf "is_measure" "is_measure" (defArgs s_is_measure) (defBody s_is_measure) (defScope s_is_measure) .none kV3 dc3 pm3 an3 cd3 ct3), sl3⟩) (c3 : PySem.W.codeIn K cd3 "is_measure" = true) (k3 : PySem.W.keepIn K (.ref f3) = true)
    (a4 : PySem.W.nsIn K mainGlobals "is_spot" = some (some (.ref f4))) (l4 : K.lookup f4 = some ⟨oc4, od4, .func (PySem.W.fnOf "is_spot" "is_spot" (defArgs s_is_spot) (defBody s_is_spot) (defScope s_is_spot) .none kV4 dc4 pm4 an4 cd4 ct4), sl4⟩) (c4 : PySem.W.codeIn K cd4 "is_spot" = true) (k4 : PySem.W.keepIn K (.ref f4) = true)
    (a5 : PySem.W.nsIn K mainGlobals "is_grain" = some (some (.ref f5))) (l5 : K.lookup f5 = some ⟨oc5, od5, .func (PySem.W.fnOf "is_grain" "is_grain" (defArgs s_is_grain) (defBody s_is_grain) (defScope s_is_grain) .none kV5 dc5 pm5 an5 cd5 ct5), sl5⟩) (c5 : PySem.W.codeIn K cd5 "is_grain" = true) (k5 : PySem.W.keepIn K (.ref f5) = true)
    (a6 : PySem.W.nsIn K mainGlobals "is_lie" = some (some (.ref f6))) (l6 : K.lookup f6 = some ⟨oc6, od6, .func (PySem.W.fnOf "is_lie" "is_lie" (defArgs s_is_lie) (defBody s_is_lie) (defScope s_is_lie) .none kV6 dc6 pm6 an6 cd6 ct6), sl6⟩) (c6 : PySem.W.codeIn K cd6 "is_lie" = true) (k6 : PySem.W.keepIn K (.ref f6) = true)
    (a7 : PySem.W.nsIn K mainGlobals "is_mark" = some (some (.ref f7))) (l7 : K.lookup f7 = some ⟨oc7, od7, .func (PySem.W.fnOf "is_mark" "is_mark" (defArgs s_is_mark) (defBody s_is_mark) (defScope s_is_mark) .none kV7 dc7 pm7 an7 cd7 ct7), sl7⟩) (c7 : PySem.W.codeIn K cd7 "is_mark" = true) (k7 : PySem.W.keepIn K (.ref f7) = true)
    (a8 : PySem.W.nsIn K mainGlobals "is_place" = some (some (.ref f8))) (l8 : K.lookup f8 = some ⟨oc8, od8, .func (PySem.W.fnOf "is_place" "is_place" (defArgs s_is_place) (defBody s_is_place) (defScope s_is_place) .none kV8 dc8 pm8 an8 cd8 ct8), sl8⟩) (c8 : PySem.W.codeIn K cd8 "is_place" = true) (k8 : PySem.W.keepIn K (.ref f8) = true)
    (a9 : PySem.W.nsIn K mainGlobals "is_course" = some (some (.ref f9))) (l9 : K.lookup f9 = some ⟨oc9, od9, .func (PySem.W.fnOf "is_course" "is_course" (defArgs s_is_course) (defBody s_is_course) (defScope s_is_course) .none kV9 dc9 pm9 an9 cd9 ct9), sl9⟩) (c9 : PySem.W.codeIn K cd9 "is_course" = true) (k9 : PySem.W.keepIn K (.ref f9) = true)
    (a10 : PySem.W.nsIn K mainGlobals "are_courses" = some (some (.ref f10))) (l10 : K.lookup f10 = some ⟨oc10, od10, .func (PySem.W.fnOf "are_courses" "are_courses" (defArgs s_are_courses) (defBody s_are_courses) (defScope s_are_courses) .none kV10 dc10 pm10 an10 cd10 ct10), sl10⟩) (c10 : PySem.W.codeIn K cd10 "are_courses" = true) (k10 : PySem.W.keepIn K (.ref f10) = true)
    (a11 : PySem.W.nsIn K mainGlobals "are_marks" = some (some (.ref f11))) (l11 : K.lookup f11 = some ⟨oc11, od11, .func (PySem.W.fnOf "are_marks" "are_marks" (defArgs s_are_marks) (defBody s_are_marks) (defScope s_are_marks) .none kV11 dc11 pm11 an11 cd11 ct11), sl11⟩) (c11 : PySem.W.codeIn K cd11 "are_marks" = true) (k11 : PySem.W.keepIn K (.ref f11) = true)
    (a12 : PySem.W.nsIn K mainGlobals "need_order" = some (some (.ref f12))) (l12 : K.lookup f12 = some ⟨oc12, od12, .func (PySem.W.fnOf "need_order" "need_order" (defArgs s_need_order) (defBody s_need_order) (defScope s_need_order) .none kV12 dc12 pm12 an12 cd12 ct12), sl12⟩) (c12 : PySem.W.codeIn K cd12 "need_order" = true) (k12 : PySem.W.keepIn K (.ref f12) = true)
    (a13 : PySem.W.nsIn K mainGlobals "spans_share" = some (some (.ref f13))) (l13 : K.lookup f13 = some ⟨oc13, od13, .func (PySem.W.fnOf "spans_share" "spans_share" (defArgs s_spans_share) (defBody s_spans_share) (defScope s_spans_share) .none kV13 dc13 pm13 an13 cd13 ct13), sl13⟩) (c13 : PySem.W.codeIn K cd13 "spans_share" = true) (k13 : PySem.W.keepIn K (.ref f13) = true)
    (a14 : PySem.W.findIn K (.ref D_Wall) "__init__" = some (some (.ref f14))) (i14 : PySem.W.isFn K (.ref f14) = true) (l14 : K.lookup f14 = some ⟨oc14, od14, .func (PySem.W.fnOf "__init__" "Wall.__init__" (defArgs s_Wall_init) (defBody s_Wall_init) (defScope s_Wall_init) .none kV14 dc14 pm14 an14 cd14 ct14), sl14⟩) (c14 : PySem.W.codeIn K cd14 "Wall.__init__" = true) (k14 : PySem.W.keepIn K (.ref f14) = true)
    (a15 : PySem.W.findIn K (.ref D_Wall) "marks" = some (some (.ref f15))) (i15 : PySem.W.isFn K (.ref f15) = true) (l15 : K.lookup f15 = some ⟨oc15, od15, .func (PySem.W.fnOf "marks" "Wall.marks" (defArgs s_Wall_marks) (defBody s_Wall_marks) (defScope s_Wall_marks) .none kV15 dc15 pm15 an15 cd15 ct15), sl15⟩) (c15 : PySem.W.codeIn K cd15 "Wall.marks" = true) (k15 : PySem.W.keepIn K (.ref f15) = true)
    (a16 : PySem.W.findIn K (.ref D_Wall) "courses" = some (some (.ref f16))) (i16 : PySem.W.isFn K (.ref f16) = true) (l16 : K.lookup f16 = some ⟨oc16, od16, .func (PySem.W.fnOf "courses" "Wall.courses" (defArgs s_Wall_courses) (defBody s_Wall_courses) (defScope s_Wall_courses) .none kV16 dc16 pm16 an16 cd16 ct16), sl16⟩) (c16 : PySem.W.codeIn K cd16 "Wall.courses" = true) (k16 : PySem.W.keepIn K (.ref f16) = true)
    (a17 : PySem.W.findIn K (.ref D_Wall) "places_in" = some (some (.ref f17))) (i17 : PySem.W.isFn K (.ref f17) = true) (l17 : K.lookup f17 = some ⟨oc17, od17, .func (PySem.W.fnOf "places_in" "Wall.places_in" (defArgs s_Wall_places_in) (defBody s_Wall_places_in) (defScope s_Wall_places_in) .none kV17 dc17 pm17 an17 cd17 ct17), sl17⟩) (c17 : PySem.W.codeIn K cd17 "Wall.places_in" = true) (k17 : PySem.W.keepIn K (.ref f17) = true)
    (a18 : PySem.W.findIn K (.ref D_Wall) "place_kept" = some (some (.ref f18))) (i18 : PySem.W.isFn K (.ref f18) = true) (l18 : K.lookup f18 = some ⟨oc18, od18, .func (PySem.W.fnOf "place_kept" "Wall.place_kept" (defArgs s_Wall_place_kept) (defBody s_Wall_place_kept) (defScope s_Wall_place_kept) .none kV18 dc18 pm18 an18 cd18 ct18), sl18⟩) (c18 : PySem.W.codeIn K cd18 "Wall.place_kept" = true) (k18 : PySem.W.keepIn K (.ref f18) = true)
    (a19 : PySem.W.findIn K (.ref D_Wall) "sharing" = some (some (.ref f19))) (i19 : PySem.W.isFn K (.ref f19) = true) (l19 : K.lookup f19 = some ⟨oc19, od19, .func (PySem.W.fnOf "sharing" "Wall.sharing" (defArgs s_Wall_sharing) (defBody s_Wall_sharing) (defScope s_Wall_sharing) .none kV19 dc19 pm19 an19 cd19 ct19), sl19⟩) (c19 : PySem.W.codeIn K cd19 "Wall.sharing" = true) (k19 : PySem.W.keepIn K (.ref f19) = true)
    (a20 : PySem.W.findIn K (.ref D_Wall) "beneath" = some (some (.ref f20))) (i20 : PySem.W.isFn K (.ref f20) = true) (l20 : K.lookup f20 = some ⟨oc20, od20, .func (PySem.W.fnOf "beneath" "Wall.beneath" (defArgs s_Wall_beneath) (defBody s_Wall_beneath) (defScope s_Wall_beneath) .none kV20 dc20 pm20 an20 cd20 ct20), sl20⟩) (c20 : PySem.W.codeIn K cd20 "Wall.beneath" = true) (k20 : PySem.W.keepIn K (.ref f20) = true)
    (a21 : PySem.W.findIn K (.ref D_Wall) "upon" = some (some (.ref f21))) (i21 : PySem.W.isFn K (.ref f21) = true) (l21 : K.lookup f21 = some ⟨oc21, od21, .func (PySem.W.fnOf "upon" "Wall.upon" (defArgs s_Wall_upon) (defBody s_Wall_upon) (defScope s_Wall_upon) .none kV21 dc21 pm21 an21 cd21 ct21), sl21⟩) (c21 : PySem.W.codeIn K cd21 "Wall.upon" = true) (k21 : PySem.W.keepIn K (.ref f21) = true)
    (a22 : PySem.W.findIn K (.ref D_Wall) "held_up" = some (some (.ref f22))) (i22 : PySem.W.isFn K (.ref f22) = true) (l22 : K.lookup f22 = some ⟨oc22, od22, .func (PySem.W.fnOf "held_up" "Wall.held_up" (defArgs s_Wall_held_up) (defBody s_Wall_held_up) (defScope s_Wall_held_up) .none kV22 dc22 pm22 an22 cd22 ct22), sl22⟩) (c22 : PySem.W.codeIn K cd22 "Wall.held_up" = true) (k22 : PySem.W.keepIn K (.ref f22) = true)
    (a23 : PySem.W.nsIn K mainGlobals "_law_bag" = some (some (.ref f23))) (l23 : K.lookup f23 = some ⟨oc23, od23, .func (PySem.W.fnOf "_law_bag" "_law_bag" (defArgs s_bag) (defBody s_bag) (defScope s_bag) .none kV23 dc23 pm23 an23 cd23 ct23), sl23⟩) (c23 : PySem.W.codeIn K cd23 "_law_bag" = true) (k23 : PySem.W.keepIn K (.ref f23) = true)
    (a24 : PySem.W.nsIn K mainGlobals "_law_take" = some (some (.ref f24))) (l24 : K.lookup f24 = some ⟨oc24, od24, .func (PySem.W.fnOf "_law_take" "_law_take" (defArgs s_take) (defBody s_take) (defScope s_take) .none kV24 dc24 pm24 an24 cd24 ct24), sl24⟩) (c24 : PySem.W.codeIn K cd24 "_law_take" = true) (k24 : PySem.W.keepIn K (.ref f24) = true)
    (a25 : PySem.W.nsIn K mainGlobals "_law_alike" = some (some (.ref f25))) (l25 : K.lookup f25 = some ⟨oc25, od25, .func (PySem.W.fnOf "_law_alike" "_law_alike" (defArgs s_alike) (defBody s_alike) (defScope s_alike) .none kV25 dc25 pm25 an25 cd25 ct25), sl25⟩) (c25 : PySem.W.codeIn K cd25 "_law_alike" = true) (k25 : PySem.W.keepIn K (.ref f25) = true)
    (a26 : PySem.W.nsIn K mainGlobals "_law_grains" = some (some (.ref f26))) (l26 : K.lookup f26 = some ⟨oc26, od26, .func (PySem.W.fnOf "_law_grains" "_law_grains" (defArgs s_grains) (defBody s_grains) (defScope s_grains) .none kV26 dc26 pm26 an26 cd26 ct26), sl26⟩) (c26 : PySem.W.codeIn K cd26 "_law_grains" = true) (k26 : PySem.W.keepIn K (.ref f26) = true)
    (a27 : PySem.W.nsIn K mainGlobals "_law_wide" = some (some (.ref f27))) (l27 : K.lookup f27 = some ⟨oc27, od27, .func (PySem.W.fnOf "_law_wide" "_law_wide" (defArgs s_wide) (defBody s_wide) (defScope s_wide) .none kV27 dc27 pm27 an27 cd27 ct27), sl27⟩) (c27 : PySem.W.codeIn K cd27 "_law_wide" = true) (k27 : PySem.W.keepIn K (.ref f27) = true)
    (a28 : PySem.W.nsIn K mainGlobals "_law_place" = some (some (.ref f28))) (l28 : K.lookup f28 = some ⟨oc28, od28, .func (PySem.W.fnOf "_law_place" "_law_place" (defArgs s_place) (defBody s_place) (defScope s_place) .none kV28 dc28 pm28 an28 cd28 ct28), sl28⟩) (c28 : PySem.W.codeIn K cd28 "_law_place" = true) (k28 : PySem.W.keepIn K (.ref f28) = true)
    (a29 : PySem.W.nsIn K mainGlobals "_law_row" = some (some (.ref f29))) (l29 : K.lookup f29 = some ⟨oc29, od29, .func (PySem.W.fnOf "_law_row" "_law_row" (defArgs s_row) (defBody s_row) (defScope s_row) .none kV29 dc29 pm29 an29 cd29 ct29), sl29⟩) (c29 : PySem.W.codeIn K cd29 "_law_row" = true) (k29 : PySem.W.keepIn K (.ref f29) = true)
    (a30 : PySem.W.nsIn K mainGlobals "_law_share" = some (some (.ref f30))) (l30 : K.lookup f30 = some ⟨oc30, od30, .func (PySem.W.fnOf "_law_share" "_law_share" (defArgs s_share) (defBody s_share) (defScope s_share) .none kV30 dc30 pm30 an30 cd30 ct30), sl30⟩) (c30 : PySem.W.codeIn K cd30 "_law_share" = true) (k30 : PySem.W.keepIn K (.ref f30) = true)
    (a31 : PySem.W.nsIn K mainGlobals "_law_edges" = some (some (.ref f31))) (l31 : K.lookup f31 = some ⟨oc31, od31, .func (PySem.W.fnOf "_law_edges" "_law_edges" (defArgs s_edges) (defBody s_edges) (defScope s_edges) .none kV31 dc31 pm31 an31 cd31 ct31), sl31⟩) (c31 : PySem.W.codeIn K cd31 "_law_edges" = true) (k31 : PySem.W.keepIn K (.ref f31) = true)
    (a32 : PySem.W.nsIn K mainGlobals "_law_shut" = some (some (.ref f32))) (l32 : K.lookup f32 = some ⟨oc32, od32, .func (PySem.W.fnOf "_law_shut" "_law_shut" (defArgs s_shut) (defBody s_shut) (defScope s_shut) .none kV32 dc32 pm32 an32 cd32 ct32), sl32⟩) (c32 : PySem.W.codeIn K cd32 "_law_shut" = true) (k32 : PySem.W.keepIn K (.ref f32) = true)
    (a33 : PySem.W.nsIn K mainGlobals "_law_copy" = some (some (.ref f33))) (l33 : K.lookup f33 = some ⟨oc33, od33, .func (PySem.W.fnOf "_law_copy" "_law_copy" (defArgs s_copy) (defBody s_copy) (defScope s_copy) .none kV33 dc33 pm33 an33 cd33 ct33), sl33⟩) (c33 : PySem.W.codeIn K cd33 "_law_copy" = true) (k33 : PySem.W.keepIn K (.ref f33) = true)
    (a34 : PySem.W.nsIn K mainGlobals "_law_marks" = some (some (.ref f34))) (l34 : K.lookup f34 = some ⟨oc34, od34, .func (PySem.W.fnOf "_law_marks" "_law_marks" (defArgs s_marks) (defBody s_marks) (defScope s_marks) .none kV34 dc34 pm34 an34 cd34 ct34), sl34⟩) (c34 : PySem.W.codeIn K cd34 "_law_marks" = true) (k34 : PySem.W.keepIn K (.ref f34) = true)
    (a35 : PySem.W.nsIn K mainGlobals "_law_spans" = some (some (.ref f35))) (l35 : K.lookup f35 = some ⟨oc35, od35, .func (PySem.W.fnOf "_law_spans" "_law_spans" (defArgs s_spans) (defBody s_spans) (defScope s_spans) .none kV35 dc35 pm35 an35 cd35 ct35), sl35⟩) (c35 : PySem.W.codeIn K cd35 "_law_spans" = true) (k35 : PySem.W.keepIn K (.ref f35) = true)
    (a36 : PySem.W.nsIn K mainGlobals "_law_related" = some (some (.ref f36))) (l36 : K.lookup f36 = some ⟨oc36, od36, .func (PySem.W.fnOf "_law_related" "_law_related" (defArgs s_related) (defBody s_related) (defScope s_related) .none kV36 dc36 pm36 an36 cd36 ct36), sl36⟩) (c36 : PySem.W.codeIn K cd36 "_law_related" = true) (k36 : PySem.W.keepIn K (.ref f36) = true)
    (a37 : PySem.W.nsIn K mainGlobals "_law_least" = some (some (.ref f37))) (l37 : K.lookup f37 = some ⟨oc37, od37, .func (PySem.W.fnOf "_law_least" "_law_least" (defArgs s_least) (defBody s_least) (defScope s_least) .none kV37 dc37 pm37 an37 cd37 ct37), sl37⟩) (c37 : PySem.W.codeIn K cd37 "_law_least" = true) (k37 : PySem.W.keepIn K (.ref f37) = true)
    (a38 : PySem.W.nsIn K mainGlobals "law" = some (some (.ref f38))) (l38 : K.lookup f38 = some ⟨oc38, od38, .func (PySem.W.fnOf "law" "law" (defArgs s_law) (defBody s_law) (defScope s_law) .none kV38 dc38 pm38 an38 cd38 ct38), sl38⟩) (c38 : PySem.W.codeIn K cd38 "law" = true) (k38 : PySem.W.keepIn K (.ref f38) = true)
    (z0 : PySem.W.nsIn K mainGlobals "abs" = some none)
    (z1 : PySem.W.nsIn K mainGlobals "all" = some none)
    (z2 : PySem.W.nsIn K mainGlobals "any" = some none)
    (z3 : PySem.W.nsIn K mainGlobals "bool" = some none)
    (z4 : PySem.W.nsIn K mainGlobals "enumerate" = some none)
    (z5 : PySem.W.nsIn K mainGlobals "int" = some none)
    (z6 : PySem.W.nsIn K mainGlobals "isinstance" = some none)
    (z7 : PySem.W.nsIn K mainGlobals "len" = some none)
    (z8 : PySem.W.nsIn K mainGlobals "list" = some none)
    (z9 : PySem.W.nsIn K mainGlobals "max" = some none)
    (z10 : PySem.W.nsIn K mainGlobals "min" = some none)
    (z11 : PySem.W.nsIn K mainGlobals "range" = some none)
    (z12 : PySem.W.nsIn K mainGlobals "repr" = some none)
    (z13 : PySem.W.nsIn K mainGlobals "set" = some none)
    (z14 : PySem.W.nsIn K mainGlobals "sorted" = some none)
    (z15 : PySem.W.nsIn K mainGlobals "str" = some none)
    (z16 : PySem.W.nsIn K mainGlobals "sum" = some none)
    (z17 : PySem.W.nsIn K mainGlobals "tuple" = some none)
    {t0 : Tok} (y0 : PySem.W.nsIn K mainGlobals "FAR" = some (some (.int 1000000 t0)))
    {t1 : Tok} (y1 : PySem.W.nsIn K mainGlobals "LETTERS" = some (some (.str ("abcdefghijklmnopqrstuvwxyz" : Str) t1)))
    {t2 : Tok} (y2 : PySem.W.nsIn K mainGlobals "LONGEST_GRAIN" = some (some (.int 8 t2)))
    {t3 : Tok} (y3 : PySem.W.nsIn K mainGlobals "MOST_COURSES" = some (some (.int 6 t3)))
    {t4 : Tok} (y4 : PySem.W.nsIn K mainGlobals "MOST_MEASURE" = some (some (.int 1000000 t4)))
    {t5 : Tok} (y5 : PySem.W.nsIn K mainGlobals "MOST_OF_MARK" = some (some (.int 24 t5)))
    {t6 : Tok} (y6 : PySem.W.nsIn K mainGlobals "MOST_PLACES" = some (some (.int 24 t6)))
    {tt0_0 tt0_1 tt0_2 : Tok} {aT0 : Addr} {dT0 : Option Addr} {nT0 : Nat} {slT0 : Array (Option Value)} (yt0 : PySem.W.nsIn K mainGlobals "LIES" = some (some (.ref aT0))) (kt0 : K.lookup aT0 = some ⟨.type "tuple", dT0, .seq #[.str ("along" : Str) tt0_0, .str ("across" : Str) tt0_1, .str ("either" : Str) tt0_2] nT0, slT0⟩)
    (kA_Wall : PySem.W.nsIn K mainGlobals "Wall" = some (some (.ref D_Wall)))
    (kP_Wall : PySem.W.plainGet K D_Wall Str.empty = true)
    (kD_Wall : PySem.W.hasDictIn K D_Wall = true)
    (kO_Wall : PySem.W.plainOver K D_Wall = true)
    (kS_Wall : PySem.W.findIn K (.ref D_Wall) "__setattr__" = some (some (.builtin "object.__setattr__")))
    (kM_Wall : PySem.W.makesIn K D_Wall = true)
    (kK_Wall : PySem.W.keepIn K (.ref D_Wall) = true)
    (kN_Wall_kept_courses : PySem.W.findIn K (.ref D_Wall) "kept_courses" = some none)
    : Callee P w K mg base 10 "law" ["_law_script"] [] (lawS 63) := by
  have B : Bt mg := ⟨PySem.W.mg_none_of X G z0, PySem.W.mg_none_of X G z1, PySem.W.mg_none_of X G z2, PySem.W.mg_none_of X G z3, PySem.W.mg_none_of X G z4, PySem.W.mg_none_of X G z5, PySem.W.mg_none_of X G z6, PySem.W.mg_none_of X G z7, PySem.W.mg_none_of X G z8, PySem.W.mg_none_of X G z9, PySem.W.mg_none_of X G z10, PySem.W.mg_none_of X G z11, PySem.W.mg_none_of X G z12, PySem.W.mg_none_of X G z13, PySem.W.mg_none_of X G z14, PySem.W.mg_none_of X G z15, PySem.W.mg_none_of X G z16, PySem.W.mg_none_of X G z17, ⟨_, PySem.W.mg_of X G y0⟩, ⟨_, PySem.W.mg_of X G y1⟩, ⟨_, PySem.W.mg_of X G y2⟩, ⟨_, PySem.W.mg_of X G y3⟩, ⟨_, PySem.W.mg_of X G y4⟩, ⟨_, PySem.W.mg_of X G y5⟩, ⟨_, PySem.W.mg_of X G y6⟩⟩
  have G_LIES : GlobT K mg "LIES" ["along", "across", "either"] := globT_of X G yt0 kt0
  obtain ⟨ca, e_Wall⟩ : ∃ ca : Str → Addr, ca "Wall" = D_Wall := ⟨fun x => if x = "Wall" then D_Wall else D_Wall, by dsimp only; rw [if_pos rfl]⟩
  subst e_Wall
  have KC_Wall : Cls K (ca "Wall") := ⟨kP_Wall, kD_Wall, kO_Wall, kS_Wall⟩
  have KN_Wall : ∀ x, x ∈ (["kept_courses"] : List Str) → NoAttr K (ca "Wall") x := (all_in kN_Wall_kept_courses no_in)
  have D_is_whole : DefAt K mg "is_whole" s_is_whole ["thing"] := def_at X G a0 l0 c0 k0 fun _ _ _ _ _ _ us hl => match us, hl with | [_], _ => rfl
  have D_is_between : DefAt K mg "is_between" s_is_between ["thing", "least", "most"] := def_at X G a1 l1 c1 k1 fun _ _ _ _ _ _ us hl => match us, hl with | [_, _, _], _ => rfl
  have D_are_between : DefAt K mg "are_between" s_are_between ["things", "least", "most"] := def_at X G a2 l2 c2 k2 fun _ _ _ _ _ _ us hl => match us, hl with | [_, _, _], _ => rfl
  have D_is_measure : DefAt K mg "is_measure" s_is_measure ["thing"] := def_at X G a3 l3 c3 k3 fun _ _ _ _ _ _ us hl => match us, hl with | [_], _ => rfl
  have D_is_spot : DefAt K mg "is_spot" s_is_spot ["thing"] := def_at X G a4 l4 c4 k4 fun _ _ _ _ _ _ us hl => match us, hl with | [_], _ => rfl
  have D_is_grain : DefAt K mg "is_grain" s_is_grain ["thing"] := def_at X G a5 l5 c5 k5 fun _ _ _ _ _ _ us hl => match us, hl with | [_], _ => rfl
  have D_is_lie : DefAt K mg "is_lie" s_is_lie ["thing"] := def_at X G a6 l6 c6 k6 fun _ _ _ _ _ _ us hl => match us, hl with | [_], _ => rfl
  have D_is_mark : DefAt K mg "is_mark" s_is_mark ["thing"] := def_at X G a7 l7 c7 k7 fun _ _ _ _ _ _ us hl => match us, hl with | [_], _ => rfl
  have D_is_place : DefAt K mg "is_place" s_is_place ["thing"] := def_at X G a8 l8 c8 k8 fun _ _ _ _ _ _ us hl => match us, hl with | [_], _ => rfl
  have D_is_course : DefAt K mg "is_course" s_is_course ["thing"] := def_at X G a9 l9 c9 k9 fun _ _ _ _ _ _ us hl => match us, hl with | [_], _ => rfl
  have D_are_courses : DefAt K mg "are_courses" s_are_courses ["thing"] := def_at X G a10 l10 c10 k10 fun _ _ _ _ _ _ us hl => match us, hl with | [_], _ => rfl
  have D_are_marks : DefAt K mg "are_marks" s_are_marks ["thing"] := def_at X G a11 l11 c11 k11 fun _ _ _ _ _ _ us hl => match us, hl with | [_], _ => rfl
  have D_need_order : DefAt K mg "need_order" s_need_order ["course", "places"] := def_at X G a12 l12 c12 k12 fun _ _ _ _ _ _ us hl => match us, hl with | [_, _], _ => rfl
  have D_spans_share : DefAt K mg "spans_share" s_spans_share ["place", "other"] := def_at X G a13 l13 c13 k13 fun _ _ _ _ _ _ us hl => match us, hl with | [_, _], _ => rfl
  obtain ⟨fd_Wall_init, Fu_Wall_init, bn_Wall_init⟩ := fun_at (x := "__init__") (qual := "Wall.__init__") (st := s_Wall_init) (ps := ["self", "courses"]) l14 c14 k14 fun _ _ _ _ _ _ us hl => match us, hl with | [_, _], _ => rfl
  have D_Wall_init : DefK K mg "Wall" (ca "Wall") "Wall.__init__" s_Wall_init ["self", "courses"] := ⟨_, fd_Wall_init, Fu_Wall_init, ⟨kM_Wall, a14, i14, kK_Wall⟩, PySem.W.mg_of X G kA_Wall, bn_Wall_init⟩
  obtain ⟨fd_Wall_marks, Fu_Wall_marks, bn_Wall_marks⟩ := fun_at (x := "marks") (qual := "Wall.marks") (st := s_Wall_marks) (ps := ["self"]) l15 c15 k15 fun _ _ _ _ _ _ us hl => match us, hl with | [_], _ => rfl
  have D_Wall_marks : DefM K (ca "Wall") "marks" "Wall.marks" s_Wall_marks ["self"] := ⟨_, fd_Wall_marks, Fu_Wall_marks, ⟨a15, i15, k15⟩, bn_Wall_marks⟩
  obtain ⟨fd_Wall_courses, Fu_Wall_courses, bn_Wall_courses⟩ := fun_at (x := "courses") (qual := "Wall.courses") (st := s_Wall_courses) (ps := ["self"]) l16 c16 k16 fun _ _ _ _ _ _ us hl => match us, hl with | [_], _ => rfl
  have D_Wall_courses : DefM K (ca "Wall") "courses" "Wall.courses" s_Wall_courses ["self"] := ⟨_, fd_Wall_courses, Fu_Wall_courses, ⟨a16, i16, k16⟩, bn_Wall_courses⟩
  obtain ⟨fd_Wall_places_in, Fu_Wall_places_in, bn_Wall_places_in⟩ := fun_at (x := "places_in") (qual := "Wall.places_in") (st := s_Wall_places_in) (ps := ["self", "course"]) l17 c17 k17 fun _ _ _ _ _ _ us hl => match us, hl with | [_, _], _ => rfl
  have D_Wall_places_in : DefM K (ca "Wall") "places_in" "Wall.places_in" s_Wall_places_in ["self", "course"] := ⟨_, fd_Wall_places_in, Fu_Wall_places_in, ⟨a17, i17, k17⟩, bn_Wall_places_in⟩
  obtain ⟨fd_Wall_place_kept, Fu_Wall_place_kept, bn_Wall_place_kept⟩ := fun_at (x := "place_kept") (qual := "Wall.place_kept") (st := s_Wall_place_kept) (ps := ["self", "mark"]) l18 c18 k18 fun _ _ _ _ _ _ us hl => match us, hl with | [_, _], _ => rfl
  have D_Wall_place_kept : DefM K (ca "Wall") "place_kept" "Wall.place_kept" s_Wall_place_kept ["self", "mark"] := ⟨_, fd_Wall_place_kept, Fu_Wall_place_kept, ⟨a18, i18, k18⟩, bn_Wall_place_kept⟩
  obtain ⟨fd_Wall_sharing, Fu_Wall_sharing, bn_Wall_sharing⟩ := fun_at (x := "sharing") (qual := "Wall.sharing") (st := s_Wall_sharing) (ps := ["self", "mark", "course"]) l19 c19 k19 fun _ _ _ _ _ _ us hl => match us, hl with | [_, _, _], _ => rfl
  have D_Wall_sharing : DefM K (ca "Wall") "sharing" "Wall.sharing" s_Wall_sharing ["self", "mark", "course"] := ⟨_, fd_Wall_sharing, Fu_Wall_sharing, ⟨a19, i19, k19⟩, bn_Wall_sharing⟩
  obtain ⟨fd_Wall_beneath, Fu_Wall_beneath, bn_Wall_beneath⟩ := fun_at (x := "beneath") (qual := "Wall.beneath") (st := s_Wall_beneath) (ps := ["self", "mark"]) l20 c20 k20 fun _ _ _ _ _ _ us hl => match us, hl with | [_, _], _ => rfl
  have D_Wall_beneath : DefM K (ca "Wall") "beneath" "Wall.beneath" s_Wall_beneath ["self", "mark"] := ⟨_, fd_Wall_beneath, Fu_Wall_beneath, ⟨a20, i20, k20⟩, bn_Wall_beneath⟩
  obtain ⟨fd_Wall_upon, Fu_Wall_upon, bn_Wall_upon⟩ := fun_at (x := "upon") (qual := "Wall.upon") (st := s_Wall_upon) (ps := ["self", "mark"]) l21 c21 k21 fun _ _ _ _ _ _ us hl => match us, hl with | [_, _], _ => rfl
  have D_Wall_upon : DefM K (ca "Wall") "upon" "Wall.upon" s_Wall_upon ["self", "mark"] := ⟨_, fd_Wall_upon, Fu_Wall_upon, ⟨a21, i21, k21⟩, bn_Wall_upon⟩
  obtain ⟨fd_Wall_held_up, Fu_Wall_held_up, bn_Wall_held_up⟩ := fun_at (x := "held_up") (qual := "Wall.held_up") (st := s_Wall_held_up) (ps := ["self", "marks"]) l22 c22 k22 fun _ _ _ _ _ _ us hl => match us, hl with | [_, _], _ => rfl
  have D_Wall_held_up : DefM K (ca "Wall") "held_up" "Wall.held_up" s_Wall_held_up ["self", "marks"] := ⟨_, fd_Wall_held_up, Fu_Wall_held_up, ⟨a22, i22, k22⟩, bn_Wall_held_up⟩
  have D_bag : DefAt K mg "_law_bag" s_bag ["_law_script"] := def_at X G a23 l23 c23 k23 fun _ _ _ _ _ _ us hl => match us, hl with | [_], _ => rfl
  have D_take : DefAt K mg "_law_take" s_take ["_law_bag_here", "_law_many"] := def_at X G a24 l24 c24 k24 fun _ _ _ _ _ _ us hl => match us, hl with | [_, _], _ => rfl
  have D_alike : DefAt K mg "_law_alike" s_alike ["_law_found", "_law_due"] := def_at X G a25 l25 c25 k25 fun _ _ _ _ _ _ us hl => match us, hl with | [_, _], _ => rfl
  have D_grains : DefAt K mg "_law_grains" s_grains ["_law_bag_here"] := def_at X G a26 l26 c26 k26 fun _ _ _ _ _ _ us hl => match us, hl with | [_], _ => rfl
  have D_wide : DefAt K mg "_law_wide" s_wide ["_law_bag_here"] := def_at X G a27 l27 c27 k27 fun _ _ _ _ _ _ us hl => match us, hl with | [_], _ => rfl
  have D_place : DefAt K mg "_law_place" s_place ["_law_bag_here", "_law_grains_here", "_law_at", "_law_behind"] := def_at X G a28 l28 c28 k28 fun _ _ _ _ _ _ us hl => match us, hl with | [_, _, _, _], _ => rfl
  have D_row : DefAt K mg "_law_row" s_row ["_law_bag_here", "_law_grains_here", "_law_count", "_law_edges_here"] := def_at X G a29 l29 c29 k29 fun _ _ _ _ _ _ us hl => match us, hl with | [_, _, _, _], _ => rfl
  have D_share : DefAt K mg "_law_share" s_share ["_law_one", "_law_other"] := def_at X G a30 l30 c30 k30 fun _ _ _ _ _ _ us hl => match us, hl with | [_, _], _ => rfl
  have D_edges : DefAt K mg "_law_edges" s_edges ["_law_places"] := def_at X G a31 l31 c31 k31 fun _ _ _ _ _ _ us hl => match us, hl with | [_], _ => rfl
  have D_shut : DefAt K mg "_law_shut" s_shut ["_law_bag_here"] := def_at X G a32 l32 c32 k32 fun _ _ _ _ _ _ us hl => match us, hl with | [_], _ => rfl
  have D_copy : DefAt K mg "_law_copy" s_copy ["_law_courses"] := def_at X G a33 l33 c33 k33 fun _ _ _ _ _ _ us hl => match us, hl with | [_], _ => rfl
  have D_marks : DefAt K mg "_law_marks" s_marks ["_law_courses"] := def_at X G a34 l34 c34 k34 fun _ _ _ _ _ _ us hl => match us, hl with | [_], _ => rfl
  have D_spans : DefAt K mg "_law_spans" s_spans ["_law_shut_here", "_law_marks_here"] := def_at X G a35 l35 c35 k35 fun _ _ _ _ _ _ us hl => match us, hl with | [_, _], _ => rfl
  have D_related : DefAt K mg "_law_related" s_related ["_law_shut_here", "_law_marks_here"] := def_at X G a36 l36 c36 k36 fun _ _ _ _ _ _ us hl => match us, hl with | [_, _], _ => rfl
  have D_least : DefAt K mg "_law_least" s_least ["_law_shut_here", "_law_marks_here", "_law_some", "_law_told"] := def_at X G a37 l37 c37 k37 fun _ _ _ _ _ _ us hl => match us, hl with | [_, _, _, _], _ => rfl
  have D_law : DefAt K mg "law" s_law ["_law_script"] := def_at X G a38 l38 c38 k38 fun _ _ _ _ _ _ us hl => match us, hl with | [_], _ => rfl
  have C_bag : Callee P w K mg base 1 "_law_bag" ["_law_script"] [] bagS := ok_bag D_bag B
  have C_take : Callee P w K mg base 1 "_law_take" ["_law_bag_here", "_law_many"] [0] takeS := ok_take D_take B
  have C_grains : Callee P w K mg base 2 "_law_grains" ["_law_bag_here"] [0] grainsS := ok_grains D_grains B C_take
  have C_wide : Callee P w K mg base 2 "_law_wide" ["_law_bag_here"] [0] wideS := ok_wide D_wide C_take
  have C_place : Callee P w K mg base 3 "_law_place" ["_law_bag_here", "_law_grains_here", "_law_at", "_law_behind"] [0] lplaceS := ok_place D_place B C_take C_wide
  have C_row : Callee P w K mg base 4 "_law_row" ["_law_bag_here", "_law_grains_here", "_law_count", "_law_edges_here"] [0] lrowS := ok_row D_row B C_take C_place
  have C_edges : Callee P w K mg base 1 "_law_edges" ["_law_places"] [] edgesS := ok_edges D_edges
  have C_share : Callee P w K mg base 1 "_law_share" ["_law_one", "_law_other"] [] lshareS := ok_share D_share B
  have C_shut : Callee P w K mg base 5 "_law_shut" ["_law_bag_here"] [0] shutS := ok_shut D_shut B C_grains C_take C_row C_edges C_wide C_share
  have C_Wall_marks : CalleeM P w K mg base 1 (ca "Wall") "marks" ["self"] [] (marksW ca) := ok_Wall_marks D_Wall_marks B KC_Wall KN_Wall
  have C_is_whole : Callee P w K mg base 1 "is_whole" ["thing"] [] wholeI := ok_is_whole D_is_whole B
  have C_is_between : Callee P w K mg base 2 "is_between" ["thing", "least", "most"] [] betweenI := ok_is_between D_is_between C_is_whole
  have C_is_measure : Callee P w K mg base 3 "is_measure" ["thing"] [] measureI := ok_is_measure D_is_measure B C_is_between
  have C_is_lie : Callee P w K mg base 1 "is_lie" ["thing"] [] lieI := ok_is_lie D_is_lie B G_LIES
  have C_is_spot : Callee P w K mg base 3 "is_spot" ["thing"] [] spotI := ok_is_spot D_is_spot B C_is_between
  have C_is_grain : Callee P w K mg base 1 "is_grain" ["thing"] [] grainE := ok_is_grain D_is_grain B
  have C_is_place : Callee P w K mg base 4 "is_place" ["thing"] [] placeI := ok_is_place D_is_place B C_is_lie C_is_spot C_is_measure C_is_grain
  have C_is_course : Callee P w K mg base 5 "is_course" ["thing"] [] courseI := ok_is_course D_is_course B C_is_measure C_is_place
  have C_are_courses : Callee P w K mg base 6 "are_courses" ["thing"] [] coursesI := ok_are_courses D_are_courses B C_is_course
  have C_need_order : Callee P w K mg base 1 "need_order" ["course", "places"] [] orderI := ok_need_order D_need_order B
  have C_Wall_places_in : CalleeM P w K mg base 1 (ca "Wall") "places_in" ["self", "course"] [] (placesW ca) := ok_Wall_places_in D_Wall_places_in B KC_Wall KN_Wall
  have C_are_between : Callee P w K mg base 3 "are_between" ["things", "least", "most"] [] areI := ok_are_between D_are_between C_is_between
  have C_is_mark : Callee P w K mg base 4 "is_mark" ["thing"] [] markI := ok_is_mark D_is_mark B C_are_between
  have C_Wall_place_kept : CalleeM P w K mg base 5 (ca "Wall") "place_kept" ["self", "mark"] [] (keptW ca) := ok_Wall_place_kept D_Wall_place_kept B KC_Wall KN_Wall C_Wall_places_in C_is_mark
  have C_spans_share : Callee P w K mg base 1 "spans_share" ["place", "other"] [] shareS := ok_spans_share D_spans_share
  have C_Wall_sharing : CalleeM P w K mg base 6 (ca "Wall") "sharing" ["self", "mark", "course"] [] (sharingW ca) := ok_Wall_sharing D_Wall_sharing B KC_Wall KN_Wall C_Wall_place_kept C_spans_share C_Wall_places_in
  have C_Wall_beneath : CalleeM P w K mg base 7 (ca "Wall") "beneath" ["self", "mark"] [] (beneathW ca) := ok_Wall_beneath D_Wall_beneath KC_Wall KN_Wall C_Wall_place_kept C_Wall_sharing
  have C_Wall_init : CalleeK P w K mg base 8 "Wall" (ca "Wall") ["self", "courses"] (initW ca) := ok_Wall_init D_Wall_init B KC_Wall KN_Wall C_Wall_marks C_are_courses C_need_order C_Wall_beneath
  have C_copy : Callee P w K mg base 1 "_law_copy" ["_law_courses"] [] copyW := ok_copy D_copy B
  have C_are_marks : Callee P w K mg base 5 "are_marks" ["thing"] [] marksI := ok_are_marks D_are_marks B C_is_mark
  have C_Wall_held_up : CalleeM P w K mg base 8 (ca "Wall") "held_up" ["self", "marks"] [] (heldW ca) := ok_Wall_held_up D_Wall_held_up B KC_Wall KN_Wall C_Wall_marks C_are_marks C_Wall_place_kept C_Wall_beneath
  have C_alike : Callee P w K mg base 1 "_law_alike" ["_law_found", "_law_due"] [] alikeS := ok_alike D_alike B
  have C_Wall_courses : CalleeM P w K mg base 1 (ca "Wall") "courses" ["self"] [] (coursesW ca) := ok_Wall_courses D_Wall_courses B KC_Wall KN_Wall
  have C_spans : Callee P w K mg base 2 "_law_spans" ["_law_shut_here", "_law_marks_here"] [] (spansS ca) := ok_spans D_spans KC_Wall KN_Wall C_Wall_courses
  have C_Wall_upon : CalleeM P w K mg base 7 (ca "Wall") "upon" ["self", "mark"] [] (uponW ca) := ok_Wall_upon D_Wall_upon KC_Wall KN_Wall C_Wall_place_kept C_Wall_sharing
  have C_related : Callee P w K mg base 8 "_law_related" ["_law_shut_here", "_law_marks_here"] [] (relatedS ca) := ok_related D_related B KC_Wall KN_Wall C_spans C_Wall_beneath C_Wall_upon C_alike
  have C_marks : Callee P w K mg base 1 "_law_marks" ["_law_courses"] [] lmarksS := ok_marks D_marks B
  have C_least : Callee P w K mg base 8 "_law_least" ["_law_shut_here", "_law_marks_here", "_law_some", "_law_told"] [] (leastS ca) := ok_least D_least B KC_Wall KN_Wall C_alike C_Wall_beneath
  have C_law : Callee P w K mg base 10 "law" ["_law_script"] [] (lawS 63) := ok_law D_law B KC_Wall KN_Wall C_bag C_shut C_Wall_init C_Wall_marks C_copy C_Wall_held_up C_alike C_related C_take C_marks C_least
  exact C_law
end My
open PySem PySem.W PyProof.Rows
set_option maxHeartbeats 0 in
theorem PySem.Challenge.cw_bedstone_k55_whole_closed_holds : PySem.Challenge.rw_bedstone_k55_whole_closed.Holds := by
  w_on; o_law; k_head; (case hw => w_witness2)
  k_fill
  refine QV.walk_ofG (l := PySem.Challenge.rw_bedstone_k55_whole_closed) (n := 63) (k := 10) (x := "_law_script") rfl (by decide) rfl ⟨rfl, by decide, by decide⟩ (fun w h Y => PySem.W.kIn_of Y) ?F
  case F =>
    intro w mg h KX G base
    refine' My.all_mk KX G base ?a0 ?l0 ?c0 ?k0 ?a1 ?l1 ?c1 ?k1 ?a2 ?l2 ?c2 ?k2 ?a3 ?l3 ?c3 ?k3 ?a4 ?l4 ?c4 ?k4 ?a5 ?l5 ?c5 ?k5 ?a6 ?l6 ?c6 ?k6 ?a7 ?l7 ?c7 ?k7 ?a8 ?l8 ?c8 ?k8 ?a9 ?l9 ?c9 ?k9 ?a10 ?l10 ?c10 ?k10 ?a11 ?l11 ?c11 ?k11 ?a12 ?l12 ?c12 ?k12 ?a13 ?l13 ?c13 ?k13 ?a14 ?i14 ?l14 ?c14 ?k14 ?a15 ?i15 ?l15 ?c15 ?k15 ?a16 ?i16 ?l16 ?c16 ?k16 ?a17 ?i17 ?l17 ?c17 ?k17 ?a18 ?i18 ?l18 ?c18 ?k18 ?a19 ?i19 ?l19 ?c19 ?k19 ?a20 ?i20 ?l20 ?c20 ?k20 ?a21 ?i21 ?l21 ?c21 ?k21 ?a22 ?i22 ?l22 ?c22 ?k22 ?a23 ?l23 ?c23 ?k23 ?a24 ?l24 ?c24 ?k24 ?a25 ?l25 ?c25 ?k25 ?a26 ?l26 ?c26 ?k26 ?a27 ?l27 ?c27 ?k27 ?a28 ?l28 ?c28 ?k28 ?a29 ?l29 ?c29 ?k29 ?a30 ?l30 ?c30 ?k30 ?a31 ?l31 ?c31 ?k31 ?a32 ?l32 ?c32 ?k32 ?a33 ?l33 ?c33 ?k33 ?a34 ?l34 ?c34 ?k34 ?a35 ?l35 ?c35 ?k35 ?a36 ?l36 ?c36 ?k36 ?a37 ?l37 ?c37 ?k37 ?a38 ?l38 ?c38 ?k38 ?z0 ?z1 ?z2 ?z3 ?z4 ?z5 ?z6 ?z7 ?z8 ?z9 ?z10 ?z11 ?z12 ?z13 ?z14 ?z15 ?z16 ?z17 ?y0 ?y1 ?y2 ?y3 ?y4 ?y5 ?y6 ?yt0 ?kt0 ?kA_Wall ?kP_Wall ?kD_Wall ?kO_Wall ?kS_Wall ?kM_Wall ?kK_Wall ?kN_Wall_kept_courses
    (case kA_Wall => k_is); (case a14 => k_is); (case i14 => k_is); (case a15 => k_is); (case i15 => k_is); (case a16 => k_is); (case i16 => k_is); (case a17 => k_is); (case i17 => k_is); (case a18 => k_is); (case i18 => k_is); (case a19 => k_is); (case i19 => k_is); (case a20 => k_is); (case i20 => k_is); (case a21 => k_is); (case i21 => k_is); (case a22 => k_is); (case i22 => k_is); (case a0 => k_is); (case l0 => k_is); (case c0 => k_is); (case k0 => k_is); (case a1 => k_is); (case l1 => k_is); (case c1 => k_is); (case k1 => k_is); (case a2 => k_is); (case l2 => k_is); (case c2 => k_is); (case k2 => k_is); (case a3 => k_is); (case l3 => k_is); (case c3 => k_is); (case k3 => k_is); (case a4 => k_is); (case l4 => k_is); (case c4 => k_is); (case k4 => k_is); (case a5 => k_is); (case l5 => k_is); (case c5 => k_is); (case k5 => k_is); (case a6 => k_is); (case l6 => k_is); (case c6 => k_is); (case k6 => k_is); (case a7 => k_is); (case l7 => k_is); (case c7 => k_is); (case k7 => k_is); (case a8 => k_is); (case l8 => k_is); (case c8 => k_is); (case k8 => k_is); (case a9 => k_is); (case l9 => k_is); (case c9 => k_is); (case k9 => k_is); (case a10 => k_is); (case l10 => k_is); (case c10 => k_is); (case k10 => k_is); (case a11 => k_is); (case l11 => k_is); (case c11 => k_is); (case k11 => k_is); (case a12 => k_is); (case l12 => k_is); (case c12 => k_is); (case k12 => k_is); (case a13 => k_is); (case l13 => k_is); (case c13 => k_is); (case k13 => k_is); (case l14 => k_is); (case c14 => k_is); (case k14 => k_is); (case l15 => k_is); (case c15 => k_is); (case k15 => k_is); (case l16 => k_is); (case c16 => k_is); (case k16 => k_is); (case l17 => k_is); (case c17 => k_is); (case k17 => k_is); (case l18 => k_is); (case c18 => k_is); (case k18 => k_is); (case l19 => k_is); (case c19 => k_is); (case k19 => k_is); (case l20 => k_is); (case c20 => k_is); (case k20 => k_is); (case l21 => k_is); (case c21 => k_is); (case k21 => k_is); (case l22 => k_is); (case c22 => k_is); (case k22 => k_is); (case a23 => k_is); (case l23 => k_is); (case c23 => k_is); (case k23 => k_is); (case a24 => k_is); (case l24 => k_is); (case c24 => k_is); (case k24 => k_is); (case a25 => k_is); (case l25 => k_is); (case c25 => k_is); (case k25 => k_is); (case a26 => k_is); (case l26 => k_is); (case c26 => k_is); (case k26 => k_is); (case a27 => k_is); (case l27 => k_is); (case c27 => k_is); (case k27 => k_is); (case a28 => k_is); (case l28 => k_is); (case c28 => k_is); (case k28 => k_is); (case a29 => k_is); (case l29 => k_is); (case c29 => k_is); (case k29 => k_is); (case a30 => k_is); (case l30 => k_is); (case c30 => k_is); (case k30 => k_is); (case a31 => k_is); (case l31 => k_is); (case c31 => k_is); (case k31 => k_is); (case a32 => k_is); (case l32 => k_is); (case c32 => k_is); (case k32 => k_is); (case a33 => k_is); (case l33 => k_is); (case c33 => k_is); (case k33 => k_is); (case a34 => k_is); (case l34 => k_is); (case c34 => k_is); (case k34 => k_is); (case a35 => k_is); (case l35 => k_is); (case c35 => k_is); (case k35 => k_is); (case a36 => k_is); (case l36 => k_is); (case c36 => k_is); (case k36 => k_is); (case a37 => k_is); (case l37 => k_is); (case c37 => k_is); (case k37 => k_is); (case a38 => k_is); (case l38 => k_is); (case c38 => k_is); (case k38 => k_is); (case z0 => k_is); (case z1 => k_is); (case z2 => k_is); (case z3 => k_is); (case z4 => k_is); (case z5 => k_is); (case z6 => k_is); (case z7 => k_is); (case z8 => k_is); (case z9 => k_is); (case z10 => k_is); (case z11 => k_is); (case z12 => k_is); (case z13 => k_is); (case z14 => k_is); (case z15 => k_is); (case z16 => k_is); (case z17 => k_is); (case y0 => k_is); (case y1 => k_is); (case y2 => k_is); (case y3 => k_is); (case y4 => k_is); (case y5 => k_is); (case y6 => k_is); (case yt0 => k_is); (case kt0 => k_is); (case kP_Wall => k_is); (case kD_Wall => k_is); (case kO_Wall => k_is); (case kS_Wall => k_is); (case kM_Wall => k_is); (case kK_Wall => k_is); (case kN_Wall_kept_courses => k_is)



