import PyProof.Rows.All
import Wide.All
import OpenK.AllK
import Wide.FinOn
import HandS.ForMost
import HandS.Wide
import HandS.Walk
import HandS.TupAny
import HandS.HotCalls
import HandS.ExcIs
import HandS.Small
import HandS.Defaults
import HandS.Zip
import HandS.Rev
import HandS.RevRange
import HandS.IsInst
import HandS.WideBits
import HandS.TupMul
import HandS.TupLe
import HandS.MakeKwOnly
import HandS.Text
import HandS.HeadHook1
import HandS.Head0
import HandS.Head1
import HandS.Head2
import HandS.HeadEnd
import HandS.HeadHook2
import HandS.HeadHook3
import HandS.HeadHook4
import KE.KStateDown
import PySem.Challenge.RW_growsnofaster_k16_least_where
set_option Elab.async false
set_option linter.all false
set_option maxRecDepth 100000
set_option maxHeartbeats 1000000
/-! A layer of plain data over the hand layer. D: data; W: a value at hand (data that never changes again, or a list that one place owns). -/
namespace DL
open PySem PySem.Spec PyProof.Rows L2

inductive D where
  | non | bl (b : Bool) | int (i : Int) | str (x : Str)
  | tup (xs : List D) | lst (xs : List D) | fz (xs : List D)
  | dic (kvs : List (Key × D))
  | ins (C : Addr) (fs : List (Str × D))
  | sto
  | exc (a : Addr) (C : Value)
  | excF (a : Addr) (C : Value) (d : Addr) (fs : List (Str × D))
/-- an exception: its class, its fields -/
structure Ex where
  cls : Value
  fs : Option (List (Str × D))
/-- a value at hand: data, or a list (a dict) that nobody else holds -/
inductive W where
  | v (d : D) | o (xs : List D) | od (kvs : List (Key × D))
def frz : W → D
  | .v d => d
  | .o xs => .lst xs
  | .od kvs => .dic kvs
abbrev EN := List (Option W)
def gt : EN → Nat → Option W
  | [], _ => none
  | x :: _, 0 => x
  | _ :: r, n + 1 => gt r n
def st : EN → Nat → Option W → EN
  | [], _, _ => []
  | _ :: r, 0, w => w :: r
  | x :: r, n + 1, w => x :: st r n w
theorem gt_eq : ∀ (ρ : EN) (i : Nat), gt ρ i = (ρ[i]?).join
  | [], _ => by simp [gt]
  | x :: _, 0 => by simp [gt]
  | _ :: r, n + 1 => by simp [gt, gt_eq r n]
theorem st_eq : ∀ (ρ : EN) (i : Nat) (w : Option W), st ρ i w = ρ.set i w
  | [], _, _ => by simp [st]
  | x :: _, 0, _ => by simp [st]
  | _ :: r, n + 1, w => by simp [st, st_eq r n]
theorem gt_st (ρ : EN) (i j : Nat) (w : Option W) : gt (st ρ i w) j = if j = i ∧ i < ρ.length then w else gt ρ j := by
  rw [gt_eq, st_eq, gt_eq]
  by_cases h : j = i
  · subst h
    by_cases hl : j < ρ.length
    · rw [List.getElem?_set_self hl]; simp [hl]
    · rw [if_neg (fun z => hl z.2), List.getElem?_eq_none (by simpa using hl), List.getElem?_eq_none (by simpa using hl)]
  · rw [List.getElem?_set_ne (Ne.symm h), if_neg (fun z => h z.1)]
theorem st_length (ρ : EN) (i : Nat) (w : Option W) : (st ρ i w).length = ρ.length := by rw [st_eq, List.length_set]
def wipeE (ρ : EN) : List Nat → EN
  | [] => ρ
  | i :: is => st (wipeE ρ is) i none
theorem wipeE_length (ρ : EN) : ∀ is : List Nat, (wipeE ρ is).length = ρ.length
  | [] => rfl
  | i :: is => by unfold wipeE; rw [st_length, wipeE_length ρ is]

/-! ### what an address stands for -/
def imm : HO → Prop
  | .tup _ => True
  | .frz _ _ => True
  | _ => False
def FzL (K : PySem.W.Frag) (H : Hp) (a : Addr) (vs : List V) : Prop :=
  (∃ o, H a = some (.frz o (.lst vs))) ∨
    ∃ (o : Obj) (its : Array Value) (n : Nat), K.lookup a = some o ∧ o.cls = .type "list" ∧ o.dict = none ∧ o.data = .seq its n ∧ its.size ≤ sizeLine ∧ Vals vs its.toList
theorem FzL.sq {K : PySem.W.Frag} {H : Hp} {a : Addr} {vs : List V} (h : FzL K H a vs) : SqL K H a vs := by
  rcases h with ⟨o, h⟩ | h
  · exact .inl (.inr ⟨o, h⟩)
  · exact .inr h
mutual
/-- v stands for d: S the addresses of lists, dicts, instances that never change again; z the store's place and its cells' -/
inductive Rp (K : PySem.W.Frag) (S : Addr → Prop) (z : Option (Addr × Addr)) (H : Hp) : V → D → Prop
  | non : Rp K S z H .non .non
  | bl (b : Bool) : Rp K S z H (.bl b) (.bl b)
  | int (i : Int) : Rp K S z H (.int i) (.int i)
  | str (x : Str) : Rp K S z H (.str x) (.str x)
  | tup {a : Addr} {vs : List V} {ds : List D} : SqT K H a vs → vs.length ≤ sizeLine → RpA K S z H vs ds → Rp K S z H (.ref a) (.tup ds)
  | lst {a : Addr} {vs : List V} {ds : List D} : S a → H a = some (.lst vs) → vs.length ≤ sizeLine → RpA K S z H vs ds → Rp K S z H (.ref a) (.lst ds)
  | fz {a : Addr} {vs : List V} {ds : List D} : FzL K H a vs → vs.length ≤ sizeLine → RpA K S z H vs ds → Rp K S z H (.ref a) (.fz ds)
  | dic {a : Addr} {kvs : List (Key × V)} {kds : List (Key × D)} : S a → H a = some (.dK kvs) → kvs.map (·.1) = kds.map (·.1) → RpA K S z H (kvs.map (·.2)) (kds.map (·.2)) → Rp K S z H (.ref a) (.dic kds)
  | ins {a C dx : Addr} {fs : List (Str × V)} {fds : List (Str × D)} : S a → H a = some (.ins C dx fs) → fs.map (·.1) = fds.map (·.1) → RpA K S z H (fs.map (·.2)) (fds.map (·.2)) → Rp K S z H (.ref a) (.ins C fds)
  | sto {a c : Addr} : z = some (a, c) → Rp K S z H (.ref a) .sto
  | exc {a : Addr} {C : Value} : Rp K S z H (.ref a) (.exc a C)
  | excF {a d : Addr} {C : Value} {lv : List (Str × V)} {fds : List (Str × D)} : S d → H d = some (.xd lv) → lv.map (·.1) = fds.map (·.1) → RpA K S z H (lv.map (·.2)) (fds.map (·.2)) → Rp K S z H (.ref a) (.excF a C d fds)
inductive RpA (K : PySem.W.Frag) (S : Addr → Prop) (z : Option (Addr × Addr)) (H : Hp) : List V → List D → Prop
  | nil : RpA K S z H [] []
  | cons {v : V} {vs : List V} {d : D} {ds : List D} : Rp K S z H v d → RpA K S z H vs ds → RpA K S z H (v :: vs) (d :: ds)
end
/-- what is kept -/
def Kp (S : Addr → Prop) (H H' : Hp) : Prop := ∀ a o, H a = some o → (S a ∨ imm o) → H' a = some o
section
variable {K : PySem.W.Frag} {S S' : Addr → Prop} {z : Option (Addr × Addr)} {H H' : Hp}
theorem SqT.kp {a : Addr} {vs : List V} (k : Kp S H H') (h : SqT K H a vs) : SqT K H' a vs := by
  rcases h with (h | ⟨o, h⟩) | h
  · exact .inl (.inl (k _ _ h (.inr trivial)))
  · exact .inl (.inr ⟨o, k _ _ h (.inr trivial)⟩)
  · exact .inr h
theorem FzL.kp {a : Addr} {vs : List V} (k : Kp S H H') (h : FzL K H a vs) : FzL K H' a vs := by
  rcases h with ⟨o, h⟩ | h
  · exact .inl ⟨o, k _ _ h (.inr trivial)⟩
  · exact .inr h
mutual
theorem Rp.mono (hs : ∀ a, S a → S' a) (k : Kp S H H') : ∀ {v : V} {d : D}, Rp K S z H v d → Rp K S' z H' v d
  | _, _, .non => .non
  | _, _, .bl b => .bl b
  | _, _, .int i => .int i
  | _, _, .str x => .str x
  | _, _, .tup h l r => .tup (SqT.kp k h) l (RpA.mono hs k r)
  | _, _, .lst s h l r => .lst (hs _ s) (k _ _ h (.inl s)) l (RpA.mono hs k r)
  | _, _, .fz h l r => .fz (FzL.kp k h) l (RpA.mono hs k r)
  | _, _, .dic s h e r => .dic (hs _ s) (k _ _ h (.inl s)) e (RpA.mono hs k r)
  | _, _, .ins s h e r => .ins (hs _ s) (k _ _ h (.inl s)) e (RpA.mono hs k r)
  | _, _, .sto h => .sto h
  | _, _, .exc => .exc
  | _, _, .excF s e q r => .excF (hs _ s) (k _ _ e (.inl s)) q (RpA.mono hs k r)
theorem RpA.mono (hs : ∀ a, S a → S' a) (k : Kp S H H') : ∀ {vs : List V} {ds : List D}, RpA K S z H vs ds → RpA K S' z H' vs ds
  | _, _, .nil => .nil
  | _, _, .cons h r => .cons (Rp.mono hs k h) (RpA.mono hs k r)
end
theorem RpA.length : ∀ {vs : List V} {ds : List D}, RpA K S z H vs ds → vs.length = ds.length
  | _, _, .nil => rfl
  | _, _, .cons _ r => by simp [RpA.length r]
theorem RpA.get : ∀ {vs : List V} {ds : List D} {i : Nat} {d : D}, RpA K S z H vs ds → ds[i]? = some d → ∃ v, vs[i]? = some v ∧ Rp K S z H v d
  | _, _, _, _, .nil, e => by simp at e
  | _, _, 0, _, .cons h _, e => by simp at e; subst e; exact ⟨_, rfl, h⟩
  | _, _, i + 1, d, .cons _ r, e => by
    obtain ⟨v, h1, h2⟩ := RpA.get (i := i) (d := d) r (by simpa using e)
    exact ⟨v, by simpa using h1, h2⟩
theorem RpA.getV : ∀ {vs : List V} {ds : List D} {i : Nat} {v : V}, RpA K S z H vs ds → vs[i]? = some v → ∃ d, ds[i]? = some d ∧ Rp K S z H v d
  | _, _, _, _, .nil, e => by simp at e
  | _, _, 0, _, .cons h _, e => by simp at e; subst e; exact ⟨_, rfl, h⟩
  | _, _, i + 1, v, .cons _ r, e => by
    obtain ⟨d, h1, h2⟩ := RpA.getV (i := i) (v := v) r (by simpa using e)
    exact ⟨d, by simpa using h1, h2⟩
theorem RpA.append : ∀ {vs ws : List V} {ds es : List D}, RpA K S z H vs ds → RpA K S z H ws es → RpA K S z H (vs ++ ws) (ds ++ es)
  | _, _, _, _, .nil, s => s
  | _, _, _, _, .cons h r, s => .cons h (RpA.append r s)
theorem RpA.take : ∀ {vs : List V} {ds : List D} (n : Nat), RpA K S z H vs ds → RpA K S z H (vs.take n) (ds.take n)
  | _, _, 0, _ => .nil
  | _, _, _ + 1, .nil => .nil
  | _, _, n + 1, .cons h r => .cons h (RpA.take n r)
theorem RpA.drop : ∀ {vs : List V} {ds : List D} (n : Nat), RpA K S z H vs ds → RpA K S z H (vs.drop n) (ds.drop n)
  | _, _, 0, r => r
  | _, _, _ + 1, .nil => .nil
  | _, _, n + 1, .cons _ r => RpA.drop n r
theorem RpA.set : ∀ {vs : List V} {ds : List D} {v : V} {d : D} (i : Nat), RpA K S z H vs ds → Rp K S z H v d → RpA K S z H (vs.set i v) (ds.set i d)
  | _, _, _, _, _, .nil, _ => .nil
  | _, _, _, _, 0, .cons _ r, q => .cons q r
  | _, _, _, _, i + 1, .cons h r, q => .cons h (RpA.set i r q)
theorem RpA.reverse : ∀ {vs : List V} {ds : List D}, RpA K S z H vs ds → RpA K S z H vs.reverse ds.reverse
  | _, _, .nil => .nil
  | _, _, .cons h r => by
    rw [List.reverse_cons, List.reverse_cons]
    exact (RpA.reverse r).append (.cons h .nil)
theorem RpA.eraseIdx : ∀ {vs : List V} {ds : List D} (i : Nat), RpA K S z H vs ds → RpA K S z H (vs.eraseIdx i) (ds.eraseIdx i)
  | _, _, _, .nil => .nil
  | _, _, 0, .cons _ r => r
  | _, _, i + 1, .cons h r => .cons h (RpA.eraseIdx i r)
theorem RpA.dropLast : ∀ {vs : List V} {ds : List D}, RpA K S z H vs ds → RpA K S z H vs.dropLast ds.dropLast
  | _, _, .nil => .nil
  | _, _, .cons _ .nil => .nil
  | _, _, .cons h (.cons h' r) => .cons h (RpA.dropLast (.cons h' r))
theorem RpA.rep {vs : List V} {ds : List D} (h : RpA K S z H vs ds) : ∀ k : Nat, RpA K S z H (List.replicate k vs).flatten (List.replicate k ds).flatten
  | 0 => .nil
  | k + 1 => by
    rw [List.replicate_succ, List.replicate_succ, List.flatten_cons, List.flatten_cons]
    exact h.append (RpA.rep h k)
end

/-- the items of a list -/
def RpB (K : PySem.W.Frag) (S : Addr → Prop) (z : Option (Addr × Addr)) (H : Hp) (vs : List V) (ds : List D) : Prop := vs.length ≤ sizeLine ∧ RpA K S z H vs ds
theorem RpB.mono {K : PySem.W.Frag} {S S' : Addr → Prop} {z : Option (Addr × Addr)} {H H' : Hp} {vs : List V} {ds : List D} (hs : ∀ a, S a → S' a) (k : Kp S H H') (h : RpB K S z H vs ds) : RpB K S' z H' vs ds := ⟨h.1, RpA.mono hs k h.2⟩
/-! ### the state -/
inductive Ow where
  | slot (i : Nat) | temp (j : Nat)
/-- what is fixed through a def's body: the heap at its entry, what never changes, the store -/
structure Bs where
  H0 : Hp
  S0 : Addr → Prop
  W : L2.WX
  xk : Ex → EN → Prop
  z : Option (Addr × Addr)
def Rw (K : PySem.W.Frag) (S : Addr → Prop) (z : Option (Addr × Addr)) (H : Hp) (ow : Addr → Option Ow) (o : Ow) (v : V) : W → Prop
  | .v d => Rp K S z H v d
  | .o ds => ∃ a vs, v = .ref a ∧ ow a = some o ∧ H a = some (.lst vs) ∧ RpB K S z H vs ds
  | .od kds => ∃ a kvs, v = .ref a ∧ ow a = some o ∧ H a = some (.dK kvs) ∧ kvs.map (·.1) = kds.map (·.1) ∧ RpA K S z H (kvs.map (·.2)) (kds.map (·.2))
def Tok (K : PySem.W.Frag) (S : Addr → Prop) (z : Option (Addr × Addr)) (H : Hp) (ow : Addr → Option Ow) : List (V × W) → Prop
  | [] => True
  | (v, w) :: τ => Rw K S z H ow (.temp τ.length) v w ∧ Tok K S z H ow τ
/-- the store: its cells, four ints -/
def Sto (K : PySem.W.Frag) (S : Addr → Prop) (z : Option (Addr × Addr)) (H : Hp) : Prop := ∀ a c, z = some (a, c) →
  ∃ i j k l : Int, H a = some (.lst [.ref c, .int i, .int j, .int k, .int l]) ∧ 0 ≤ i ∧ ∃ cells, Rp K S z H (.ref c) (.lst cells) ∧ ∀ d ∈ cells, ∃ p q : Int, d = .tup [.int p, .int q]
structure RelS (K : PySem.W.Frag) (B : Bs) (S : Addr → Prop) (ow : Addr → Option Ow) (σ : L2.St) (H : Hp) (ρ : EN) (τ : List (V × W)) : Prop where
  s0 : ∀ a, B.S0 a → S a
  s1 : ∀ a, S a → B.S0 a ∨ B.H0 a = none
  sz : ∀ a c, B.z = some (a, c) → ¬ S a
  sh : ∀ a, S a → ∃ o, H a = some o
  so : ∀ a, S a → ow a = none
  oh : ∀ a o, ow a = some o → B.H0 a = none
  oz : ∀ a c, B.z = some (a, c) → ow a = none
  fr : ∀ a o, B.H0 a = some o → (∀ c, B.z ≠ some (a, c)) → H a = some o
  zo : Sto K S B.z H
  z0 : ∀ a c, B.z = some (a, c) → ∃ o, B.H0 a = some o
  len : σ.length = ρ.length
  sl : ∀ i w, gt ρ i = some w → ∃ v, σ[i]? = some (some v) ∧ Rw K S B.z H ow (.slot i) v w
  tm : Tok K S B.z H ow τ
def Rel (K : PySem.W.Frag) (B : Bs) (σ : L2.St) (H : Hp) (ρ : EN) (τ : List (V × W)) : Prop := ∃ S ow, RelS K B S ow σ H ρ τ
section
variable {K : PySem.W.Frag} {B : Bs} {S S' : Addr → Prop} {ow ow' : Addr → Option Ow} {σ : L2.St} {H H' : Hp} {ρ : EN} {τ : List (V × W)} {z : Option (Addr × Addr)} {v : V} {w : W}
theorem Rw.mono {o : Ow} (hs : ∀ a, S a → S' a) (k : Kp S H H') (ko : ∀ a, ow a = some o → ow' a = some o ∧ ∀ u, H a = some u → H' a = some u) (h : Rw K S z H ow o v w) : Rw K S' z H' ow' o v w := by
  cases w with
  | v d => exact Rp.mono hs k h
  | o ds =>
    obtain ⟨a, vs, e, ho, hh, r⟩ := h
    obtain ⟨h1, h2⟩ := ko a ho
    exact ⟨a, vs, e, h1, h2 _ hh, RpB.mono hs k r⟩
  | od ds =>
    obtain ⟨a, vs, e, ho, hh, q, r⟩ := h
    obtain ⟨h1, h2⟩ := ko a ho
    exact ⟨a, vs, e, h1, h2 _ hh, q, RpA.mono hs k r⟩
theorem Tok.mono (hs : ∀ a, S a → S' a) (k : Kp S H H') : ∀ {τ : List (V × W)}, (∀ a j, j < τ.length → ow a = some (.temp j) → ow' a = some (.temp j) ∧ ∀ u, H a = some u → H' a = some u) → Tok K S z H ow τ → Tok K S' z H' ow' τ
  | [], _, _ => trivial
  | (v, w) :: τ, ko, h => ⟨Rw.mono hs k (fun a e => ko a _ (by simp) e) h.1, Tok.mono hs k (fun a j hj e => ko a j (by simp; omega) e) h.2⟩
theorem Sto.mono (hs : ∀ a, S a → S' a) (k : Kp S H H') (kz : ∀ a c u, z = some (a, c) → H a = some u → H' a = some u) (h : Sto K S z H) : Sto K S' z H' := fun a c e => by
  obtain ⟨i, j, q, l, h1, h2, cells, h3, h4⟩ := h a c e
  exact ⟨i, j, q, l, kz a c _ e h1, h2, cells, Rp.mono hs k h3, h4⟩
/-- where all that was tracked is kept -/
theorem RelS.keep (R : RelS K B S ow σ H ρ τ) (k : ∀ a o, H a = some o → H' a = some o) : RelS K B S ow σ H' ρ τ where
  s0 := R.s0
  s1 := R.s1
  sz := R.sz
  sh := fun a s => let ⟨o, e⟩ := R.sh a s; ⟨o, k _ _ e⟩
  so := R.so
  oh := R.oh
  oz := R.oz
  fr := fun a o e n => k _ _ (R.fr a o e n)
  zo := R.zo.mono (fun _ s => s) (fun a o e _ => k a o e) (fun a c u _ e => k a u e)
  z0 := R.z0
  len := R.len
  sl := fun i w e => by
    obtain ⟨v, h1, h2⟩ := R.sl i w e
    exact ⟨v, h1, h2.mono (fun _ s => s) (fun a o e _ => k a o e) fun a e => ⟨e, fun u => k a u⟩⟩
  tm := R.tm.mono (fun _ s => s) (fun a o e _ => k a o e) fun a j _ e => ⟨e, fun u => k a u⟩
theorem RelS.fresh0 (R : RelS K B S ow σ H ρ τ) {p : Addr} (hp : H p = none) : B.H0 p = none := by
  cases e : B.H0 p with
  | none => rfl
  | some o =>
    by_cases hz : ∃ c, B.z = some (p, c)
    · obtain ⟨c, hz⟩ := hz
      obtain ⟨i, j, q, l, h1, _⟩ := R.zo p c hz
      rw [hp] at h1; cases h1
    · have := R.fr p o e fun c q => hz ⟨c, q⟩
      rw [hp] at this; cases this
theorem RelS.freshS (R : RelS K B S ow σ H ρ τ) {p : Addr} (hp : H p = none) : ¬ S p := fun s => by
  obtain ⟨o, e⟩ := R.sh p s
  rw [hp] at e; cases e
theorem RelS.freshZ (R : RelS K B S ow σ H ρ τ) {p : Addr} (hp : H p = none) (c : Addr) : B.z ≠ some (p, c) := fun e => by
  obtain ⟨i, j, q, l, h1, _⟩ := R.zo p c e
  rw [hp] at h1; cases h1
theorem keep_new {p : Addr} {o : HO} (hp : H p = none) : ∀ a u, H a = some u → upd H p o a = some u := fun a u e => by rw [upd_ne (ne_of_none e hp)]; exact e
theorem RelS.push (R : RelS K B S ow σ H ρ τ) {d : D} (h : Rp K S B.z H v d) : RelS K B S ow σ H ρ ((v, .v d) :: τ) :=
  { R with tm := ⟨h, R.tm⟩ }
theorem RelS.pop (R : RelS K B S ow σ H ρ ((v, w) :: τ)) : RelS K B S ow σ H ρ τ := { R with tm := R.tm.2 }
theorem RelS.top (R : RelS K B S ow σ H ρ ((v, w) :: τ)) : Rw K S B.z H ow (.temp τ.length) v w := R.tm.1
/-- owners changed at p alone -/
def owAt (ow : Addr → Option Ow) (p : Addr) (o : Option Ow) : Addr → Option Ow := fun a => if a = p then o else ow a
theorem owAt_same {p : Addr} {o : Option Ow} : owAt ow p o p = o := by unfold owAt; rw [if_pos rfl]
theorem owAt_ne {p a : Addr} {o : Option Ow} (h : a ≠ p) : owAt ow p o a = ow a := by unfold owAt; rw [if_neg h]
theorem RelS.newTup (R : RelS K B S ow σ H ρ τ) {p : Addr} {vs : List V} {ds : List D} (hp : H p = none) (hl : vs.length ≤ sizeLine) (h : RpA K S B.z H vs ds) : RelS K B S ow σ (upd H p (.tup vs)) ρ ((.ref p, .v (.tup ds)) :: τ) :=
  (R.keep (keep_new hp)).push (.tup (SqT.of upd_same) hl (RpA.mono (fun _ s => s) (fun a o e _ => keep_new hp a o e) h))
/-- a new place is owned by a new temporary -/
theorem RelS.newOwn (R : RelS K B S ow σ H ρ τ) {p : Addr} (hp : H p = none) {o : HO} (hw : Rw K S B.z (upd H p o) (owAt ow p (some (.temp τ.length))) (.temp τ.length) v w) :
    RelS K B S (owAt ow p (some (.temp τ.length))) σ (upd H p o) ρ ((v, w) :: τ) := by
  have k := keep_new (H := H) (o := o) hp
  have R' := R.keep k
  have nS := R.freshS hp
  have h0 := R.fresh0 hp
  have kk : Kp S H (upd H p o) := fun a o e _ => k a o e
  have nol : ∀ a x, H a = some x → a ≠ p := fun a x e => ne_of_none e hp
  have ko : ∀ {q : Ow} {v : V} {w : W}, Rw K S B.z H ow q v w → Rw K S B.z (upd H p o) (owAt ow p (some (.temp τ.length))) q v w := fun {q v w} h => by
    cases w with
    | v d => exact Rp.mono (fun _ s => s) kk h
    | o ds =>
      obtain ⟨a, vs, e, ho, hh, r⟩ := h
      exact ⟨a, vs, e, (owAt_ne (nol a _ hh)).trans ho, k _ _ hh, RpB.mono (fun _ s => s) kk r⟩
    | od ds =>
      obtain ⟨a, vs, e, ho, hh, q, r⟩ := h
      exact ⟨a, vs, e, (owAt_ne (nol a _ hh)).trans ho, k _ _ hh, q, RpA.mono (fun _ s => s) kk r⟩
  have kt : ∀ {t : List (V × W)}, Tok K S B.z H ow t → Tok K S B.z (upd H p o) (owAt ow p (some (.temp τ.length))) t := by
    intro t
    induction t with
    | nil => intro _; trivial
    | cons x t ih => intro h; exact ⟨ko h.1, ih h.2⟩
  exact { R' with
    so := fun a s => by
      have hne : a ≠ p := fun e => nS (e ▸ s)
      exact (owAt_ne hne).trans (R.so a s)
    oh := fun a q e => by
      by_cases ha : a = p
      · rw [ha]; exact h0
      · rw [owAt_ne ha] at e; exact R.oh a q e
    oz := fun a c e => by
      have hne : a ≠ p := fun q => R.freshZ hp c (q ▸ e)
      exact (owAt_ne hne).trans (R.oz a c e)
    sl := fun i w e => by
      obtain ⟨v, h1, h2⟩ := R.sl i w e
      exact ⟨v, h1, ko h2⟩
    tm := ⟨hw, kt R.tm⟩ }
theorem RelS.newLst (R : RelS K B S ow σ H ρ τ) {p : Addr} {vs : List V} {ds : List D} (hp : H p = none) (h : RpB K S B.z H vs ds) : RelS K B S (owAt ow p (some (.temp τ.length))) σ (upd H p (.lst vs)) ρ ((.ref p, .o ds) :: τ) :=
  R.newOwn hp ⟨p, vs, rfl, owAt_same, upd_same, RpB.mono (fun _ s => s) (fun a o e _ => keep_new hp a o e) h⟩
/-- frozen: an owned place joins what never changes -/
theorem RelS.frz (R : RelS K B S ow σ H ρ τ) {a : Addr} {q : Ow} {u : HO} (ha : ow a = some q) (hh : H a = some u) (hτ : ∀ j, q = .temp j → τ.length ≤ j) (hρ : ∀ i, q = .slot i → ∀ w, gt ρ i = some w → ∃ d, w = .v d) :
    RelS K B (fun b => S b ∨ b = a) (owAt ow a none) σ H ρ τ := by
  have hs : ∀ b, S b → S b ∨ b = a := fun b s => .inl s
  have kk : Kp S H H := fun _ _ e _ => e
  have ko : ∀ {q' : Ow} {v : V} {w : W}, (q' ≠ q ∨ ∃ d, w = .v d) → Rw K S B.z H ow q' v w → Rw K (fun b => S b ∨ b = a) B.z H (owAt ow a none) q' v w := fun {q' v w} hq h => by
    cases w with
    | v d => exact Rp.mono hs kk h
    | o ds =>
      obtain ⟨b, vs, e, ho, hh', r⟩ := h
      have hb : b ≠ a := fun z => by
        rw [z, ha] at ho
        rcases hq with hq | ⟨d, hq⟩
        · exact hq (Option.some.inj ho).symm
        · cases hq
      exact ⟨b, vs, e, (owAt_ne hb).trans ho, hh', RpB.mono hs kk r⟩
    | od ds =>
      obtain ⟨b, vs, e, ho, hh', q', r⟩ := h
      have hb : b ≠ a := fun z => by
        rw [z, ha] at ho
        rcases hq with hq | ⟨d, hq⟩
        · exact hq (Option.some.inj ho).symm
        · cases hq
      exact ⟨b, vs, e, (owAt_ne hb).trans ho, hh', q', RpA.mono hs kk r⟩
  have kt : ∀ {t : List (V × W)}, t.length ≤ τ.length → Tok K S B.z H ow t → Tok K (fun b => S b ∨ b = a) B.z H (owAt ow a none) t := by
    intro t
    induction t with
    | nil => intro _ _; trivial
    | cons x t ih =>
      intro hl h
      refine ⟨ko (.inl fun e => ?_) h.1, ih (by simp at hl; omega) h.2⟩
      have := hτ _ e.symm
      simp at hl
      omega
  exact { R with
    s0 := fun b s => .inl (R.s0 b s)
    s1 := fun b s => by
      rcases s with s | s
      · exact R.s1 b s
      · rw [s]; exact .inr (R.oh a q ha)
    sz := fun b c e s => by
      rcases s with s | s
      · exact R.sz b c e s
      · rw [s] at e
        have := R.oz a c e
        rw [ha] at this; cases this
    sh := fun b s => by
      rcases s with s | s
      · exact R.sh b s
      · rw [s]; exact ⟨u, hh⟩
    so := fun b s => by
      by_cases hb : b = a
      · rw [hb]; exact owAt_same
      · rcases s with s | s
        · exact (owAt_ne hb).trans (R.so b s)
        · exact absurd s hb
    oh := fun b o e => by
      by_cases hb : b = a
      · rw [hb, owAt_same] at e; cases e
      · rw [owAt_ne hb] at e; exact R.oh b o e
    oz := fun b c e => by
      by_cases hb : b = a
      · rw [hb]; exact owAt_same
      · exact (owAt_ne hb).trans (R.oz b c e)
    zo := R.zo.mono hs kk (fun _ _ _ _ e => e)
    sl := fun i w e => by
      obtain ⟨v, h1, h2⟩ := R.sl i w e
      refine ⟨v, h1, ko ?_ h2⟩
      by_cases hq : Ow.slot i = q
      · exact .inr (hρ i hq.symm w e)
      · exact .inl hq
    tm := kt (Nat.le_refl _) R.tm }
/-- the top is frozen and taken off -/
theorem RelS.frzTop (R : RelS K B S ow σ H ρ ((v, w) :: τ)) : ∃ S' ow', RelS K B S' ow' σ H ρ τ ∧ Rp K S' B.z H v (DL.frz w) ∧ ∀ a, S a → S' a := by
  have ht := R.top
  have R1 := R.pop
  cases w with
  | v d => exact ⟨S, ow, R1, ht, fun _ s => s⟩
  | o ds =>
    obtain ⟨a, vs, e, ho, hh, r⟩ := ht
    refine ⟨_, _, R1.frz ho hh (fun j e => ?_) (fun i e => nomatch e), ?_, fun _ s => .inl s⟩
    · cases e; exact Nat.le_refl _
    · rw [e]
      exact .lst (.inr rfl) hh r.1 (RpA.mono (fun _ s => .inl s) (fun _ _ e _ => e) r.2)
  | od ds =>
    obtain ⟨a, vs, e, ho, hh, q, r⟩ := ht
    refine ⟨_, _, R1.frz ho hh (fun j e => ?_) (fun i e => nomatch e), ?_, fun _ s => .inl s⟩
    · cases e; exact Nat.le_refl _
    · rw [e]
      exact .dic (.inr rfl) hh q (RpA.mono (fun _ s => .inl s) (fun _ _ e _ => e) r)
theorem gt_lt {ρ : EN} {i : Nat} {w : W} (h : gt ρ i = some w) : i < ρ.length := by
  rw [gt_eq] at h
  by_cases q : i < ρ.length
  · exact q
  · rw [List.getElem?_eq_none (by omega)] at h; cases h
/-- a slot forgotten -/
theorem RelS.drop (R : RelS K B S ow σ H ρ τ) (i : Nat) : RelS K B S ow σ H (st ρ i none) τ :=
  { R with
    len := by rw [st_length]; exact R.len
    sl := fun j w e => by
      rw [gt_st] at e
      split at e
      · cases e
      · exact R.sl j w e }
/-- what is known of a slot, said otherwise -/
theorem RelS.slot (R : RelS K B S ow σ H ρ τ) {i : Nat} {w : W} (hi : σ[i]? = some (some v)) (h : Rw K S B.z H ow (.slot i) v w) : RelS K B S ow σ H (st ρ i (some w)) τ :=
  { R with
    len := by rw [st_length]; exact R.len
    sl := fun j w' e => by
      rw [gt_st] at e
      split at e
      · rename_i c
        cases e
        rw [c.1]
        exact ⟨v, hi, h⟩
      · exact R.sl j w' e }
theorem st_st (ρ : EN) (i : Nat) (a b : Option W) : st (st ρ i a) i b = st ρ i b := by
  rw [st_eq, st_eq, st_eq, List.set_set]
/-- a slot is frozen -/
theorem RelS.frzSlot (R : RelS K B S ow σ H ρ τ) {i : Nat} {w : W} (hi : gt ρ i = some w) : ∃ S' ow' v, RelS K B S' ow' σ H (st ρ i (some (.v (DL.frz w)))) τ ∧ σ[i]? = some (some v) ∧ Rp K S' B.z H v (DL.frz w) := by
  obtain ⟨v, h1, h2⟩ := R.sl i w hi
  have R1 := R.drop i
  have none_i : ∀ w', gt (st ρ i none) i = some w' → False := fun w' e => by
    rw [gt_st, if_pos ⟨rfl, gt_lt hi⟩] at e; cases e
  cases w with
  | v d => exact ⟨S, ow, v, R.slot h1 h2, h1, h2⟩
  | o ds =>
    obtain ⟨a, vs, e, ho, hh, r⟩ := h2
    have R2 := R1.frz ho hh (fun j e => nomatch e) (fun j e w' q => by cases e; exact (none_i w' q).elim)
    have rp : Rp K (fun b => S b ∨ b = a) B.z H v (.lst ds) := by
      rw [e]
      exact .lst (.inr rfl) hh r.1 (RpA.mono (fun _ s => .inl s) (fun _ _ e _ => e) r.2)
    refine ⟨_, owAt ow a none, v, ?_, h1, rp⟩
    have R3 := R2.slot (w := .v (.lst ds)) h1 rp
    rw [st_st] at R3
    exact R3
  | od ds =>
    obtain ⟨a, vs, e, ho, hh, q, r⟩ := h2
    have R2 := R1.frz ho hh (fun j e => nomatch e) (fun j e w' q => by cases e; exact (none_i w' q).elim)
    have rp : Rp K (fun b => S b ∨ b = a) B.z H v (.dic ds) := by
      rw [e]
      exact .dic (.inr rfl) hh q (RpA.mono (fun _ s => .inl s) (fun _ _ e _ => e) r)
    refine ⟨_, owAt ow a none, v, ?_, h1, rp⟩
    have R3 := R2.slot (w := .v (.dic ds)) h1 rp
    rw [st_st] at R3
    exact R3
/-- the top goes into a slot -/
theorem RelS.toSlot (R : RelS K B S ow σ H ρ ((v, w) :: τ)) {i : Nat} : ∃ ow', RelS K B S ow' (σ.set i (some v)) H (st ρ i (some w)) τ := by
  have ht := R.top
  have R1 := R.pop
  have base : ∀ (ow' : Addr → Option Ow), (∀ a, S a → ow' a = none) → (∀ a o, ow' a = some o → B.H0 a = none) → (∀ a c, B.z = some (a, c) → ow' a = none) →
      (∀ j v w, j ≠ i → Rw K S B.z H ow (.slot j) v w → Rw K S B.z H ow' (.slot j) v w) → Tok K S B.z H ow' τ → Rw K S B.z H ow' (.slot i) v w → RelS K B S ow' (σ.set i (some v)) H (st ρ i (some w)) τ := fun ow' a1 a2 a3 a4 a5 a6 =>
    { R1 with
      so := a1, oh := a2, oz := a3
      len := by rw [st_length, List.length_set]; exact R1.len
      sl := fun j w' e => by
        rw [gt_st] at e
        split at e
        · rename_i c
          cases e
          refine ⟨v, ?_, ?_⟩
          · rw [c.1, List.getElem?_set_self (by rw [R1.len]; exact c.2)]
          · rw [c.1]; exact a6
        · rename_i c
          obtain ⟨v', h1, h2⟩ := R1.sl j w' e
          have hj : j ≠ i := fun q => c ⟨q, q ▸ gt_lt e⟩
          exact ⟨v', by rw [List.getElem?_set_ne (Ne.symm hj)]; exact h1, a4 j v' w' hj h2⟩
      tm := a5 }
  have own : ∀ (a : Addr), ow a = some (.temp τ.length) → (Rw K S B.z H (owAt ow a (some (.slot i))) (.slot i) v w) → ∃ ow', RelS K B S ow' (σ.set i (some v)) H (st ρ i (some w)) τ := fun a ho hw => by
    have ne : ∀ b q, ow b = some q → q ≠ .temp τ.length → b ≠ a := fun b q e hq z => by rw [z, ho] at e; exact hq (Option.some.inj e).symm
    have ko : ∀ {q : Ow} {v : V} {w : W}, q ≠ .temp τ.length → Rw K S B.z H ow q v w → Rw K S B.z H (owAt ow a (some (.slot i))) q v w := fun {q v w} hq h => by
      cases w with
      | v d => exact h
      | o ds =>
        obtain ⟨b, vs, e, ho', r⟩ := h
        exact ⟨b, vs, e, (owAt_ne (ne b q ho' hq)).trans ho', r⟩
      | od ds =>
        obtain ⟨b, vs, e, ho', r⟩ := h
        exact ⟨b, vs, e, (owAt_ne (ne b q ho' hq)).trans ho', r⟩
    have kt : ∀ {t : List (V × W)}, t.length ≤ τ.length → Tok K S B.z H ow t → Tok K S B.z H (owAt ow a (some (.slot i))) t := by
      intro t
      induction t with
      | nil => intro _ _; trivial
      | cons x t ih =>
        intro hl h
        refine ⟨ko (fun e => ?_) h.1, ih (by simp at hl; omega) h.2⟩
        have e2 := Ow.temp.inj e
        simp at hl
        omega
    refine ⟨_, base (owAt ow a (some (.slot i))) (fun b s => ?_) (fun b o e => ?_) (fun b c e => ?_) (fun j v w _ h => ko (by intro e; cases e) h) (kt (Nat.le_refl _) R1.tm) hw⟩
    · have hb : b ≠ a := fun q => by
        rw [q] at s
        have := R.so a s
        rw [ho] at this; cases this
      exact (owAt_ne hb).trans (R.so b s)
    · by_cases hb : b = a
      · rw [hb]; exact R.oh a _ ho
      · rw [owAt_ne hb] at e; exact R.oh b o e
    · have hb : b ≠ a := fun q => by
        rw [q] at e
        have := R.oz a c e
        rw [ho] at this; cases this
      exact (owAt_ne hb).trans (R.oz b c e)
  cases w with
  | v d => exact ⟨ow, base ow R1.so R1.oh R1.oz (fun _ _ _ _ h => h) R1.tm ht⟩
  | o ds =>
    obtain ⟨a, vs, e, ho, r⟩ := id ht
    exact own a ho ⟨a, vs, e, owAt_same, r⟩
  | od ds =>
    obtain ⟨a, vs, e, ho, r⟩ := id ht
    exact own a ho ⟨a, vs, e, owAt_same, r⟩
/-- an owned place is written -/
theorem RelS.write (R : RelS K B S ow σ H ρ τ) {a : Addr} {q : Ow} {u u' : HO} (ha : ow a = some q) (hh : H a = some u) (hu : ¬ imm u) (hτ : ∀ j, q = .temp j → τ.length ≤ j) (hρ : ∀ i, q = .slot i → gt ρ i = none) :
    RelS K B S ow σ (upd H a u') ρ τ := by
  have neS : ∀ b, S b → b ≠ a := fun b s e => by
    rw [e] at s
    have := R.so a s
    rw [ha] at this; cases this
  have kk : Kp S H (upd H a u') := fun b o e h => by
    rw [upd_ne]
    · exact e
    · rcases h with h | h
      · exact neS b h
      · intro q
        rw [q, hh] at e
        cases e
        exact hu h
  have nez : ∀ b c, B.z = some (b, c) → b ≠ a := fun b c e q => by
    rw [q] at e
    have := R.oz a c e
    rw [ha] at this; cases this
  have ko : ∀ b q', ow b = some q' → q' ≠ q → b ≠ a := fun b q' e hq z => by rw [z, ha] at e; exact hq (Option.some.inj e).symm
  exact { R with
    sh := fun b s => by
      obtain ⟨o, e⟩ := R.sh b s
      exact ⟨o, by rw [upd_ne (neS b s)]; exact e⟩
    fr := fun b o e n => by
      have h0 := R.oh a q ha
      rw [upd_ne (fun z => by rw [z, h0] at e; cases e)]
      exact R.fr b o e n
    zo := R.zo.mono (fun _ s => s) kk (fun b c u e h => by rw [upd_ne (nez b c e)]; exact h)
    sl := fun i w e => by
      obtain ⟨v, h1, h2⟩ := R.sl i w e
      have hq : Ow.slot i ≠ q := fun z => by rw [hρ i z.symm] at e; cases e
      exact ⟨v, h1, h2.mono (fun _ s => s) kk fun b e => ⟨e, fun u h => by rw [upd_ne (ko b _ e hq)]; exact h⟩⟩
    tm := R.tm.mono (fun _ s => s) kk fun b j hj e => by
      have hq : Ow.temp j ≠ q := fun z => by have := hτ j z.symm; omega
      exact ⟨e, fun u h => by rw [upd_ne (ko b _ e hq)]; exact h⟩ }
/-- a slot's own list is written -/
theorem RelS.writeSlot (R : RelS K B S ow σ H ρ τ) {i : Nat} {ds ds' : List D} {a : Addr} {vs vs' : List V} (hi : gt ρ i = some (.o ds)) (hv : σ[i]? = some (some (.ref a))) (ho : ow a = some (.slot i)) (hh : H a = some (.lst vs)) (r : RpB K S B.z H vs' ds') :
    RelS K B S ow σ (upd H a (.lst vs')) (st ρ i (some (.o ds'))) τ := by
  have kk : Kp S H (upd H a (.lst vs')) := fun b o e h => by
    rw [upd_ne]
    · exact e
    · intro q
      rcases h with h | h
      · rw [q] at h
        have := R.so a h
        rw [ho] at this; cases this
      · rw [q, hh] at e
        cases e
        exact h
  have R1 := (R.drop i).write (u' := .lst vs') ho hh (fun z => z) (fun j e => nomatch e) (fun j e => by
    cases e
    rw [gt_st, if_pos ⟨rfl, gt_lt hi⟩])
  have R2 := R1.slot (w := .o ds') hv ⟨a, vs', rfl, ho, upd_same, RpB.mono (fun _ s => s) kk r⟩
  rw [st_st] at R2
  exact R2
/-- the top's own list is written -/
theorem RelS.writeTop {ds ds' : List D} {a : Addr} {vs vs' : List V} (R : RelS K B S ow σ H ρ ((.ref a, .o ds) :: τ)) (hh : H a = some (.lst vs)) (r : RpB K S B.z H vs' ds') :
    RelS K B S ow σ (upd H a (.lst vs')) ρ ((.ref a, .o ds') :: τ) := by
  obtain ⟨b, us, e, ho, hb, _⟩ := R.top
  cases e
  have kk : Kp S H (upd H a (.lst vs')) := fun b o e h => by
    rw [upd_ne]
    · exact e
    · intro q
      rcases h with h | h
      · rw [q] at h
        have := R.so a h
        rw [ho] at this; cases this
      · rw [q, hh] at e
        cases e
        exact h
  have R1 := R.pop.write (u' := .lst vs') ho hh (fun z => z) (fun j e => by cases e; exact Nat.le_refl _) (fun j e => nomatch e)
  exact { R1 with tm := ⟨⟨a, vs', rfl, ho, upd_same, RpB.mono (fun _ s => s) kk r⟩, R1.tm⟩ }
end
end DL

set_option maxHeartbeats 1000000
namespace DL
open PySem PySem.Spec PyProof.Rows L2
/-! ### the judgements -/
abbrev RE := EN → (W → EN → Prop) → Prop
abbrev RA := EN → (List D → EN → Prop) → Prop
abbrev RT := EN → (Bool → EN → Prop) → Prop
/-- what is wanted behind a statement -/
structure KD where
  nx : EN → Prop
  rt : W → EN → Prop
  bk : EN → Prop
  ct : EN → Prop
abbrev RS := KD → EN → Prop
structure DE (X : Cx) (B : Bs) (e : Expr) (t : TE) (r : RE) : Prop where
  pe : PE X e t
  sim : ∀ (σ : L2.St) (H : Hp) (ρ : EN) (τ : List (V × W)) (Q : VK) (k : W → EN → Prop), Rel X.K B σ H ρ τ → r ρ k → (∀ w ρ' v H', k w ρ' → Rel X.K B σ H' ρ' ((v, w) :: τ) → Q v H') → t σ H Q
structure DA (X : Cx) (B : Bs) (es : List Expr) (t : TA) (r : RA) : Prop where
  pa : PA X es t
  sim : ∀ (σ : L2.St) (H : Hp) (ρ : EN) (τ : List (V × W)) (Q : List V → Hp → Prop) (k : List D → EN → Prop), Rel X.K B σ H ρ τ → r ρ k →
    (∀ ds ρ' vs H' S ow, k ds ρ' → RelS X.K B S ow σ H' ρ' τ → RpA X.K S B.z H' vs ds → Q vs H') → t σ H Q
structure DT (X : Cx) (B : Bs) (e : Expr) (t : TT) (r : RT) : Prop where
  pt : PT X e t
  sim : ∀ (σ : L2.St) (H : Hp) (ρ : EN) (τ : List (V × W)) (Q : Bool → Hp → Prop) (k : Bool → EN → Prop), Rel X.K B σ H ρ τ → r ρ k → (∀ b ρ' H', k b ρ' → Rel X.K B σ H' ρ' τ → Q b H') → t σ H Q
/-- a chain of and, or -/
structure DW (X : Cx) (B : Bs) (e : Expr) (t : TT) (r : RT) : Prop where
  pw : PW X e t
  sim : ∀ (σ : L2.St) (H : Hp) (ρ : EN) (τ : List (V × W)) (Q : Bool → Hp → Prop) (k : Bool → EN → Prop), Rel X.K B σ H ρ τ → r ρ k → (∀ b ρ' H', k b ρ' → Rel X.K B σ H' ρ' τ → Q b H') → t σ H Q
structure EndsR (K : PySem.W.Frag) (B : Bs) (τ : List (V × W)) (D : Ends) (k : KD) : Prop where
  nx : ∀ σ H ρ, Rel K B σ H ρ τ → k.nx ρ → D.nx σ H
  bk : ∀ σ H ρ, Rel K B σ H ρ τ → k.bk ρ → D.bk σ H
  ct : ∀ σ H ρ, Rel K B σ H ρ τ → k.ct ρ → D.ct σ H
  rt : ∀ v w σ H ρ, Rel K B σ H ρ ((v, w) :: τ) → k.rt w ρ → D.rt v H
structure DS (X : Cx) (B : Bs) (s : Stmt) (t : TS) (r : RS) : Prop where
  ps : PS X s t
  sim : ∀ (τ : List (V × W)) (D : Ends) (k : KD), EndsR X.K B τ D k → ∀ (σ : L2.St) (H : Hp) (ρ : EN), Rel X.K B σ H ρ τ → r k ρ → t D σ H
structure DSs (X : Cx) (B : Bs) (s : List Stmt) (t : TS) (r : RS) : Prop where
  ps : PSs X s t
  sim : ∀ (τ : List (V × W)) (D : Ends) (k : KD), EndsR X.K B τ D k → ∀ (σ : L2.St) (H : Hp) (ρ : EN), Rel X.K B σ H ρ τ → r k ρ → t D σ H
section
variable {X : Cx} {B : Bs} {a b e : Expr} {ta tb te : TE} {ra rb re : RE} {pos : Pos}
/-! ### names, constants -/
/-- a name read: a list that it owned is from now on shared -/
def rVar (i : Nat) : RE := fun ρ K => match gt ρ i with
  | some (.v d) => K (.v d) ρ
  | some (.o ds) => K (.v (.lst ds)) (st ρ i (some (.v (.lst ds))))
  | some (.od ds) => K (.v (.dic ds)) (st ρ i (some (.v (.dic ds))))
  | none => False
theorem rVar_frz {i : Nat} {ρ : EN} {K : W → EN → Prop} (h : rVar i ρ K) : ∃ w, gt ρ i = some w ∧ (K (.v (frz w)) ρ ∧ (∃ d, w = .v d) ∨ K (.v (frz w)) (st ρ i (some (.v (frz w))))) := by
  unfold rVar at h
  cases e : gt ρ i with
  | none => rw [e] at h; exact h.elim
  | some w =>
    rw [e] at h
    cases w with
    | v d => exact ⟨_, rfl, .inl ⟨h, d, rfl⟩⟩
    | o ds => exact ⟨_, rfl, .inr h⟩
    | od ds => exact ⟨_, rfl, .inr h⟩
theorem de_var (i : Nat) {x : Str} (hN : X.N[i]? = some x := by rfl) (hv : Vis X.env.scope x := by first | exact Or.inl rfl | exact Or.inr (Or.inl rfl) | exact Or.inr (Or.inr rfl)) (hd : (x == ("__debug__" : Str)) = false := by decide)
    (hcd : (x == ("__classdict__" : Str)) = false := by decide) : DE X B (.Name x pos) (tVar i) (rVar i) := by
  refine ⟨pe_var hN hv hd hcd, fun σ H ρ τ Q k R h f => ?_⟩
  obtain ⟨S, ow, R⟩ := R
  obtain ⟨w, hw, h⟩ := rVar_frz h
  rcases h with ⟨h, d, rfl⟩ | h
  · obtain ⟨v, h1, h2⟩ := R.sl i _ hw
    exact ⟨v, h1, f _ _ v H h ⟨S, ow, R.push h2⟩⟩
  · obtain ⟨S', ow', v, R', h1, h2⟩ := R.frzSlot hw
    exact ⟨v, h1, f _ _ v H h ⟨S', ow', R'.push h2⟩⟩
/-- a name read for the last time: what it owned goes on -/
def rMov (i : Nat) : RE := fun ρ K => match gt ρ i with
  | some w => K w (st ρ i none)
  | none => False
theorem RelS.moveSlot {K : PySem.W.Frag} {S : Addr → Prop} {ow : Addr → Option Ow} {σ : L2.St} {H : Hp} {ρ : EN} {τ : List (V × W)} (R : RelS K B S ow σ H ρ τ) {i : Nat} {w : W} (hi : gt ρ i = some w) :
    ∃ ow' v, RelS K B S ow' σ H (st ρ i none) ((v, w) :: τ) ∧ σ[i]? = some (some v) := by
  obtain ⟨v, h1, h2⟩ := R.sl i w hi
  have R1 := R.drop i
  have ni : gt (st ρ i none) i = none := by rw [gt_st, if_pos ⟨rfl, gt_lt hi⟩]
  have own : ∀ (a : Addr), ow a = some (.slot i) → (Rw K S B.z H (owAt ow a (some (.temp τ.length))) (.temp τ.length) v w) → ∃ ow' v, RelS K B S ow' σ H (st ρ i none) ((v, w) :: τ) ∧ σ[i]? = some (some v) := fun a ho hw => by
    have ko : ∀ {q : Ow} {v : V} {w : W}, q ≠ .slot i → Rw K S B.z H ow q v w → Rw K S B.z H (owAt ow a (some (.temp τ.length))) q v w := fun {q v w} hq h => by
      have ne : ∀ b, ow b = some q → b ≠ a := fun b e z => by rw [z, ho] at e; exact hq (Option.some.inj e).symm
      cases w with
      | v d => exact h
      | o ds =>
        obtain ⟨b, vs, e, ho', r⟩ := h
        exact ⟨b, vs, e, (owAt_ne (ne b ho')).trans ho', r⟩
      | od ds =>
        obtain ⟨b, vs, e, ho', r⟩ := h
        exact ⟨b, vs, e, (owAt_ne (ne b ho')).trans ho', r⟩
    have kt : ∀ {t : List (V × W)}, Tok K S B.z H ow t → Tok K S B.z H (owAt ow a (some (.temp τ.length))) t := by
      intro t
      induction t with
      | nil => intro _; trivial
      | cons x t ih => intro h; exact ⟨ko (fun e => by cases e) h.1, ih h.2⟩
    exact ⟨owAt ow a (some (.temp τ.length)), v, { R1 with
      so := fun b s => by
        have hb : b ≠ a := fun q => by
          rw [q] at s
          have := R.so a s
          rw [ho] at this; cases this
        exact (owAt_ne hb).trans (R.so b s)
      oh := fun b o e => by
        by_cases hb : b = a
        · rw [hb]; exact R.oh a _ ho
        · rw [owAt_ne hb] at e; exact R.oh b o e
      oz := fun b c e => by
        have hb : b ≠ a := fun q => by
          rw [q] at e
          have := R.oz a c e
          rw [ho] at this; cases this
        exact (owAt_ne hb).trans (R.oz b c e)
      sl := fun j w' e => by
        obtain ⟨v', q1, q2⟩ := R1.sl j w' e
        refine ⟨v', q1, ko (fun z => ?_) q2⟩
        cases z
        rw [ni] at e; cases e
      tm := ⟨hw, kt R.tm⟩ }, h1⟩
  cases w with
  | v d => exact ⟨ow, v, R1.push h2, h1⟩
  | o ds =>
    obtain ⟨a, vs, e, ho, r⟩ := id h2
    exact own a ho ⟨a, vs, e, owAt_same, r⟩
  | od ds =>
    obtain ⟨a, vs, e, ho, r⟩ := id h2
    exact own a ho ⟨a, vs, e, owAt_same, r⟩
theorem de_mov (i : Nat) {x : Str} (hN : X.N[i]? = some x := by rfl) (hv : Vis X.env.scope x := by first | exact Or.inl rfl | exact Or.inr (Or.inl rfl) | exact Or.inr (Or.inr rfl)) (hd : (x == ("__debug__" : Str)) = false := by decide)
    (hcd : (x == ("__classdict__" : Str)) = false := by decide) : DE X B (.Name x pos) (tVar i) (rMov i) := by
  refine ⟨pe_var hN hv hd hcd, fun σ H ρ τ Q k R h f => ?_⟩
  obtain ⟨S, ow, R⟩ := R
  unfold rMov at h
  cases e : gt ρ i with
  | none => rw [e] at h; exact h.elim
  | some w =>
    rw [e] at h
    obtain ⟨ow', v, R', h1⟩ := R.moveSlot e
    exact ⟨v, h1, f _ _ v H h ⟨S, ow', R'⟩⟩
def rC (d : D) : RE := fun ρ K => K (.v d) ρ
theorem de_c {e : Expr} {v : V} {d : D} (h : PE X e (tC v)) (hr : ∀ S z H, Rp X.K S z H v d) : DE X B e (tC v) (rC d) :=
  ⟨h, fun σ H ρ τ Q k ⟨S, ow, R⟩ q f => f _ _ v H q ⟨S, ow, R.push (hr _ _ _)⟩⟩
theorem de_int {i : Int} {j} : DE X B (.Constant (.int i) j pos) (tC (.int i)) (rC (.int i)) := de_c pe_int fun _ _ _ => .int i
theorem de_bl {b : Bool} {j} : DE X B (.Constant (.bool b) j pos) (tC (.bl b)) (rC (.bl b)) := de_c pe_bl fun _ _ _ => .bl b
theorem de_non {j} : DE X B (.Constant .none j pos) (tC .non) (rC .non) := de_c pe_non fun _ _ _ => .non
theorem de_str {x : Str} {j} : DE X B (.Constant (.str x) j pos) (tC (.str x)) (rC (.str x)) := de_c pe_str fun _ _ _ => .str x
/-! ### operators -/
/-- two values at hand, the later one on top -/
abbrev G2 := W → W → (W → Prop) → Prop
abbrev G1 := W → (W → Prop) → Prop
def rBin (g : G2) (ra rb : RE) : RE := fun ρ K => ra ρ fun x ρ1 => rb ρ1 fun y ρ2 => g x y fun w => K w ρ2
def rUn (g : G1) (ra : RE) : RE := fun ρ K => ra ρ fun x ρ1 => g x fun w => K w ρ1
/-- a rule over two values at hand, wherever they stand -/
def Sim2 (K : PySem.W.Frag) (r : R2) (g : G2) : Prop := ∀ (B : Bs) (S : Addr → Prop) (ow : Addr → Option Ow) (σ : L2.St) (H : Hp) (ρ : EN) (τ : List (V × W)) (o o' : Ow) (x y : V) (wx wy : W) (Q : VK) (k : W → Prop),
  RelS K B S ow σ H ρ τ → Rw K S B.z H ow o x wx → Rw K S B.z H ow o' y wy → g wx wy k → (∀ w v H', k w → Rel K B σ H' ρ ((v, w) :: τ) → Q v H') → r x y H Q
def Sim1 (K : PySem.W.Frag) (r : V → Hp → VK → Prop) (g : G1) : Prop := ∀ (B : Bs) (S : Addr → Prop) (ow : Addr → Option Ow) (σ : L2.St) (H : Hp) (ρ : EN) (τ : List (V × W)) (o : Ow) (x : V) (wx : W) (Q : VK) (k : W → Prop),
  RelS K B S ow σ H ρ τ → Rw K S B.z H ow o x wx → g wx k → (∀ w v H', k w → Rel K B σ H' ρ ((v, w) :: τ) → Q v H') → r x H Q
theorem Rel.pop {K : PySem.W.Frag} {σ : L2.St} {H : Hp} {ρ : EN} {τ : List (V × W)} {x : V × W} (R : Rel K B σ H ρ (x :: τ)) : Rel K B σ H ρ τ := by
  obtain ⟨S, ow, R⟩ := R
  exact ⟨S, ow, R.pop⟩
theorem sim_op {r : R2} {g : G2} (h : Sim2 X.K r g) (ha : DE X B a ta ra) (hb : DE X B b tb rb) :
    ∀ (σ : L2.St) (H : Hp) (ρ : EN) (τ : List (V × W)) (Q : VK) (k : W → EN → Prop), Rel X.K B σ H ρ τ → rBin g ra rb ρ k → (∀ w ρ' v H', k w ρ' → Rel X.K B σ H' ρ' ((v, w) :: τ) → Q v H') → tOp r ta tb σ H Q := fun σ H ρ τ Q k R q f =>
  ha.sim σ H ρ τ _ _ R q fun wx ρ1 x H1 q1 R1 => hb.sim σ H1 ρ1 _ _ _ R1 q1 fun wy ρ2 y H2 q2 R2 => by
    obtain ⟨S, ow, R2⟩ := R2
    exact h B S ow σ H2 ρ2 τ _ _ x y wx wy Q _ R2.pop.pop R2.pop.top R2.top q2 fun w v H' q3 R3 => f w ρ2 v H' q3 R3
/-- a name on the left, looked at when the right one stands -/
def rBinP (g : G2) (i : Nat) (rb : RE) : RE := fun ρ K => rb ρ fun y ρ2 => match gt ρ2 i with
  | some x => g x y fun w => K w ρ2
  | none => False
theorem sim_opP {r : R2} {g : G2} {i : Nat} (h : Sim2 X.K r g) (hb : DE X B b tb rb) :
    ∀ (σ : L2.St) (H : Hp) (ρ : EN) (τ : List (V × W)) (Q : VK) (k : W → EN → Prop), (∃ v, σ[i]? = some (some v)) → Rel X.K B σ H ρ τ → rBinP g i rb ρ k → (∀ w ρ' v H', k w ρ' → Rel X.K B σ H' ρ' ((v, w) :: τ) → Q v H') → tOp r (tVar i) tb σ H Q := fun σ H ρ τ Q k ⟨v, hv⟩ R q f =>
  ⟨v, hv, hb.sim σ H ρ τ _ _ R q fun wy ρ2 y H2 q2 R2 => by
    obtain ⟨S, ow, R2⟩ := R2
    split at q2
    · rename_i x e
      obtain ⟨v', h1, h2⟩ := R2.sl i x e
      rw [hv] at h1
      cases h1
      exact h B S ow σ H2 ρ2 τ _ _ v y x wy Q _ R2.pop h2 R2.top q2 fun w v H' q3 R3 => f w ρ2 v H' q3 R3
    · exact q2.elim⟩
/-- the slot has a value at the start -/
def rBinP' (g : G2) (i : Nat) (rb : RE) : RE := fun ρ K => (gt ρ i).isSome = true ∧ rBinP g i rb ρ K
theorem sim_opP' {r : R2} {g : G2} {i : Nat} (h : Sim2 X.K r g) (hb : DE X B b tb rb) :
    ∀ (σ : L2.St) (H : Hp) (ρ : EN) (τ : List (V × W)) (Q : VK) (k : W → EN → Prop), Rel X.K B σ H ρ τ → rBinP' g i rb ρ k → (∀ w ρ' v H', k w ρ' → Rel X.K B σ H' ρ' ((v, w) :: τ) → Q v H') → tOp r (tVar i) tb σ H Q := fun σ H ρ τ Q k R q f => by
  obtain ⟨S, ow, R'⟩ := id R
  cases e : gt ρ i with
  | none => have := q.1; rw [e] at this; cases this
  | some w =>
    obtain ⟨v, h1, _⟩ := R'.sl i w e
    exact sim_opP h hb σ H ρ τ Q k ⟨v, h1⟩ R q.2 f
theorem de_op {op : Operator} {r : R2} {g : G2} (ho : OpR X (binaryOp op) r) (h : Sim2 X.K r g) (ha : DE X B a ta ra) (hb : DE X B b tb rb) : DE X B (.BinOp a op b pos) (tOp r ta tb) (rBin g ra rb) :=
  ⟨pe_op ho ha.pe hb.pe, sim_op h ha hb⟩
theorem de_cmp {op : CmpOp} {r : R2} {g : G2} (ho : OpR X (compareOp op) r) (h : Sim2 X.K r g) (ha : DE X B a ta ra) (hb : DE X B b tb rb) (hm : behindInMarks op b = false) : DE X B (.Compare a [op] [b] pos) (tOp r ta tb) (rBin g ra rb) :=
  ⟨pe_cmpR ho ha.pe hb.pe hm, sim_op h ha hb⟩
theorem de_un {op : UnaryOp} {r : V → Hp → VK → Prop} {g : G1} (ho : UnR X (unaryOp op) r) (h : Sim1 X.K r g) (ha : DE X B a ta ra) : DE X B (.UnaryOp op a pos) (tUn r ta) (rUn g ra) :=
  ⟨pe_un ho ha.pe, fun σ H ρ τ Q k R q f => ha.sim σ H ρ τ _ _ R q fun wx ρ1 x H1 q1 R1 => by
    obtain ⟨S, ow, R1⟩ := R1
    exact h B S ow σ H1 ρ1 τ _ x wx Q _ R1.pop R1.top q1 fun w v H' q3 R3 => f w ρ1 v H' q3 R3⟩
/-- an operator, a comparison with a name on the left that may own its list -/
theorem de_opP {op : Operator} {r : R2} {g : G2} (i : Nat) {x : Str} {pos' : Pos} (ho : OpR X (binaryOp op) r) (h : Sim2 X.K r g) (hp : PE X (.Name x pos') (tVar i)) (hb : DE X B b tb rb) : DE X B (.BinOp (.Name x pos') op b pos) (tOp r (tVar i) tb) (rBinP' g i rb) :=
  ⟨pe_op ho hp hb.pe, sim_opP' h hb⟩
theorem de_cmpP {op : CmpOp} {r : R2} {g : G2} (i : Nat) {x : Str} {pos' : Pos} (ho : OpR X (compareOp op) r) (h : Sim2 X.K r g) (hp : PE X (.Name x pos') (tVar i)) (hb : DE X B b tb rb) (hm : behindInMarks op b = false) : DE X B (.Compare (.Name x pos') [op] [b] pos) (tOp r (tVar i) tb) (rBinP' g i rb) :=
  ⟨pe_cmpR ho hp hb.pe hm, sim_opP' h hb⟩
/-! the two values, read off -/
theorem Rw.int {K : PySem.W.Frag} {S : Addr → Prop} {z : Option (Addr × Addr)} {H : Hp} {ow : Addr → Option Ow} {o : Ow} {x : V} {i : Int} (h : Rw K S z H ow o x (.v (.int i))) : x = .int i := by
  have h0 : Rp K S z H x (.int i) := h
  cases h0
  rfl
theorem Rw.bl {K : PySem.W.Frag} {S : Addr → Prop} {z : Option (Addr × Addr)} {H : Hp} {ow : Addr → Option Ow} {o : Ow} {x : V} {i : Bool} (h : Rw K S z H ow o x (.v (.bl i))) : x = .bl i := by
  have h0 : Rp K S z H x (.bl i) := h
  cases h0
  rfl
theorem Rw.str {K : PySem.W.Frag} {S : Addr → Prop} {z : Option (Addr × Addr)} {H : Hp} {ow : Addr → Option Ow} {o : Ow} {x : V} {i : Str} (h : Rw K S z H ow o x (.v (.str i))) : x = .str i := by
  have h0 : Rp K S z H x (.str i) := h
  cases h0
  rfl
theorem Rw.non {K : PySem.W.Frag} {S : Addr → Prop} {z : Option (Addr × Addr)} {H : Hp} {ow : Addr → Option Ow} {o : Ow} {x : V} (h : Rw K S z H ow o x (.v .non)) : x = .non := by
  have h0 : Rp K S z H x .non := h
  cases h0
  rfl
theorem Rw.tup {K : PySem.W.Frag} {S : Addr → Prop} {z : Option (Addr × Addr)} {H : Hp} {ow : Addr → Option Ow} {o : Ow} {x : V} {ds : List D} (h : Rw K S z H ow o x (.v (.tup ds))) : ∃ a vs, x = .ref a ∧ SqT K H a vs ∧ RpB K S z H vs ds := by
  have h0 : Rp K S z H x (.tup ds) := h
  cases h0 with
  | tup h1 l r => exact ⟨_, _, rfl, h1, l, r⟩
/-- the items of a list -/
def itL : W → Option (List D)
  | .v (.lst xs) => some xs
  | .v (.fz xs) => some xs
  | .o xs => some xs
  | _ => none
/-- a list that stands by itself -/
def itM : W → Option (List D)
  | .v (.lst xs) => some xs
  | .o xs => some xs
  | _ => none
theorem Rw.lst {K : PySem.W.Frag} {S : Addr → Prop} {z : Option (Addr × Addr)} {H : Hp} {ow : Addr → Option Ow} {o : Ow} {x : V} {w : W} {ds : List D} (h : Rw K S z H ow o x w) (e : itL w = some ds) : ∃ a vs, x = .ref a ∧ SqL K H a vs ∧ RpB K S z H vs ds := by
  cases w with
  | o xs =>
    cases e
    obtain ⟨a, vs, e, _, h1, r⟩ := h
    exact ⟨a, vs, e, SqL.of h1, r⟩
  | od xs => cases e
  | v d =>
    have h0 : Rp K S z H x d := h
    clear h
    cases h0 <;> first | (cases e; done) | skip
    · rename_i h1 l r
      cases e
      exact ⟨_, _, rfl, SqL.of h1, l, r⟩
    · rename_i h1 l r
      cases e
      exact ⟨_, _, rfl, h1.sq, l, r⟩
theorem Rw.lstM {K : PySem.W.Frag} {S : Addr → Prop} {z : Option (Addr × Addr)} {H : Hp} {ow : Addr → Option Ow} {o : Ow} {x : V} {w : W} {ds : List D} (h : Rw K S z H ow o x w) (e : itM w = some ds) : ∃ a vs, x = .ref a ∧ H a = some (.lst vs) ∧ RpB K S z H vs ds := by
  cases w with
  | o xs =>
    cases e
    obtain ⟨a, vs, e, _, h1, r⟩ := h
    exact ⟨a, vs, e, h1, r⟩
  | od xs => cases e
  | v d =>
    have h0 : Rp K S z H x d := h
    clear h
    cases h0 <;> first | (cases e; done) | skip
    rename_i h1 l r
    cases e
    exact ⟨_, _, rfl, h1, l, r⟩
/-- two ints -/
def g2I (C : Int → Int → Prop) (g : Int → Int → D) : G2 := fun x y k => match x, y with
  | .v (.int i), .v (.int j) => C i j ∧ k (.v (g i j))
  | _, _ => False
theorem g2I_at {C : Int → Int → Prop} {g : Int → Int → D} {x y : W} {k : W → Prop} (h : g2I C g x y k) : ∃ i j, x = .v (.int i) ∧ y = .v (.int j) ∧ C i j ∧ k (.v (g i j)) := by
  unfold g2I at h
  split at h
  · exact ⟨_, _, rfl, rfl, h⟩
  · exact h.elim
theorem sim_I {K : PySem.W.Frag} {C : Int → Int → Prop} {g : Int → Int → V} {gd : Int → Int → D} (hg : ∀ i j S z H, Rp K S z H (g i j) (gd i j)) : Sim2 K (rI C g) (g2I C gd) := fun B S ow σ H ρ τ o o' x y wx wy Q k R hx hy h f => by
  obtain ⟨i, j, rfl, rfl, c, q⟩ := g2I_at h
  exact ⟨i, j, hx.int, hy.int, c, f _ _ H q ⟨S, ow, R.push (hg _ _ _ _ _)⟩⟩
theorem sim_I0 {K : PySem.W.Frag} {g : Int → Int → V} {gd : Int → Int → D} (hg : ∀ i j S z H, Rp K S z H (g i j) (gd i j)) : Sim2 K (rI0 g) (g2I (fun _ _ => True) gd) := fun B S ow σ H ρ τ o o' x y wx wy Q k R hx hy h f => by
  obtain ⟨i, j, rfl, rfl, _, q⟩ := g2I_at h
  exact ⟨i, j, hx.int, hy.int, f _ _ H q ⟨S, ow, R.push (hg _ _ _ _ _)⟩⟩
/-! ### argument lists, displays -/
def rNil : RA := fun ρ k => k [] ρ
def rCons (r : RE) (rs : RA) : RA := fun ρ k => r ρ fun w ρ1 => rs ρ1 fun ds ρ2 => k (frz w :: ds) ρ2
theorem da_nil : DA X B [] tNil rNil := ⟨pa_nil, fun σ H ρ τ Q k ⟨S, ow, R⟩ q f => f _ _ _ H S ow q R .nil⟩
variable {es : List Expr} {t : TA} {rs : RA}
theorem da_cons (he : DE X B e te re) (hr : DA X B es t rs) (hs : starEach (e :: es) X.env = (false, eval e X.env) :: starEach es X.env := by rfl) : DA X B (e :: es) (tCons te t) (rCons re rs) :=
  ⟨pa_cons he.pe hr.pa hs, fun σ H ρ τ Q k R q f => he.sim σ H ρ τ _ _ R q fun w ρ1 v H1 q1 R1 => hr.sim σ H1 ρ1 _ _ _ R1 q1 fun ds ρ2 vs H2 S ow q2 R2 r2 => by
    obtain ⟨S', ow', R3, hv, hs⟩ := R2.frzTop
    exact f _ _ _ H2 S' ow' q2 R3 (.cons hv (RpA.mono hs (fun _ _ e _ => e) r2))⟩
def rTup (rs : RA) : RE := fun ρ k => rs ρ fun ds ρ1 => ds.length ≤ sizeLine ∧ k (.v (.tup ds)) ρ1
def rLst (rs : RA) : RE := fun ρ k => rs ρ fun ds ρ1 => ds.length ≤ sizeLine ∧ k (.o ds) ρ1
theorem de_tup {x1} (h : DA X B es t rs) : DE X B (.Tuple es x1 pos) (tTup t) (rTup rs) :=
  ⟨pe_tup h.pa, fun σ H ρ τ Q k R q f => h.sim σ H ρ τ _ _ R q fun ds ρ' vs H' S ow q' R' r' => by
    have hl : vs.length ≤ sizeLine := by rw [r'.length]; exact q'.1
    exact ⟨hl, fun p hp => f _ _ _ _ q'.2 ⟨S, ow, R'.newTup hp hl r'⟩⟩⟩
theorem de_lst (h : DA X B es t rs) : DE X B (.List es pos) (tLst t) (rLst rs) :=
  ⟨pe_lst h.pa, fun σ H ρ τ Q k R q f => h.sim σ H ρ τ _ _ R q fun ds ρ' vs H' S ow q' R' r' => by
    have hl : vs.length ≤ sizeLine := by rw [r'.length]; exact q'.1
    exact ⟨hl, fun p hp => f _ _ _ _ q'.2 ⟨S, _, R'.newLst hp ⟨hl, r'⟩⟩⟩⟩
/-! ### tests -/
def rVal (r : RE) : RT := fun ρ k => r ρ fun w ρ' => match w with
  | .v (.bl b) => k b ρ'
  | _ => False
theorem dt_val (h : DE X B e te re) (he : ∀ whole, isTrue e X.env whole = (do let v ← whole; standAt e.pos; holding [v] (truthy v)) := by intro _; rfl) : DT X B e (tB te) (rVal re) :=
  ⟨pt_val h.pe he, fun σ H ρ τ Q k R q f => h.sim σ H ρ τ _ _ R q fun w ρ1 v H1 q1 R1 => by
    split at q1
    · rename_i b
      obtain ⟨S, ow, R1⟩ := R1
      have := R1.top
      cases this
      exact ⟨b, rfl, f _ _ _ q1 ⟨S, ow, R1.pop⟩⟩
    · exact q1.elim⟩
/-- a value's truth -/
def tru : W → Option Bool
  | .v .non => some false
  | .v (.bl b) => some b
  | .v (.int i) => some (i != 0)
  | .v (.tup xs) => some (!xs.isEmpty)
  | .v (.lst xs) => some (!xs.isEmpty)
  | .v (.fz xs) => some (!xs.isEmpty)
  | .o xs => some (!xs.isEmpty)
  | .v (.dic xs) => some (!xs.isEmpty)
  | .od xs => some (!xs.isEmpty)
  | _ => none
theorem RpA.isEmpty {K : PySem.W.Frag} {S : Addr → Prop} {z : Option (Addr × Addr)} {H : Hp} {vs : List V} {ds : List D} (h : RpA K S z H vs ds) : vs.isEmpty = ds.isEmpty := by cases h <;> rfl
theorem keys_empty {α : Type} {kvs : List (Key × V)} {kds : List (Key × α)} (h : kvs.map (·.1) = kds.map (·.1)) : kvs.isEmpty = kds.isEmpty := by
  cases kvs <;> cases kds <;> simp_all
theorem tru_ok {K : PySem.W.Frag} {S : Addr → Prop} {ow : Addr → Option Ow} {z : Option (Addr × Addr)} {H : Hp} {o : Ow} {v : V} {w : W} {b : Bool} (h : Rw K S z H ow o v w) (e : tru w = some b) : TruV K v H b := by
  cases w with
  | o ds =>
    obtain ⟨a, vs, rfl, _, hh, r⟩ := h
    cases e
    exact .inl ⟨vs, SqL.of hh, by rw [r.2.isEmpty]⟩
  | od ds =>
    obtain ⟨a, vs, rfl, _, hh, q, r⟩ := h
    cases e
    exact .inr (.inr ⟨vs, hh, by rw [keys_empty q]⟩)
  | v d =>
    have h0 : Rp K S z H v d := h
    clear h
    cases h0 with
    | non => cases e; rfl
    | bl b => cases e; rfl
    | int i => cases e; rfl
    | str x => cases e
    | tup h1 _ r => cases e; exact .inr (.inl ⟨_, h1, by rw [r.isEmpty]⟩)
    | lst s h1 _ r => cases e; exact .inl ⟨_, SqL.of h1, by rw [r.isEmpty]⟩
    | fz h1 _ r => cases e; exact .inl ⟨_, h1.sq, by rw [r.isEmpty]⟩
    | dic s h1 q r => cases e; exact .inr (.inr ⟨_, h1, by rw [keys_empty q]⟩)
    | ins _ _ _ _ => cases e
    | sto _ => cases e
    | exc => cases e
    | excF _ _ _ _ => cases e
def rTru (r : RE) : RT := fun ρ k => r ρ fun w ρ' => ∃ b, tru w = some b ∧ k b ρ'
theorem dt_tru (h : DE X B e te re) (he : ∀ whole, isTrue e X.env whole = (do let v ← whole; standAt e.pos; holding [v] (truthy v)) := by intro _; rfl) : DT X B e (fun σ H Q => te σ H fun x H' => ∃ k, TruV X.K x H' k ∧ Q k H') (rTru re) :=
  ⟨pt_truth h.pe he, fun σ H ρ τ Q k R q f => h.sim σ H ρ τ _ _ R q fun w ρ1 v H1 ⟨b, e, q1⟩ R1 => by
    obtain ⟨S, ow, R1⟩ := R1
    exact ⟨b, tru_ok R1.top e, f _ _ _ q1 ⟨S, ow, R1.pop⟩⟩⟩
variable {ca cb : RT} {tA tB' : TT} {rest : List Expr}
def rNot (c : RT) : RT := fun ρ k => c ρ fun b ρ' => k (!b) ρ'
def rAnd (c d : RT) : RT := fun ρ k => c ρ fun b ρ' => (b = true → d ρ' k) ∧ (b = false → k false ρ')
def rOr (c d : RT) : RT := fun ρ k => c ρ fun b ρ' => (b = true → k true ρ') ∧ (b = false → d ρ' k)
theorem dt_not (h : DT X B a tA ca) : DT X B (.UnaryOp .Not a pos) (tNot tA) (rNot ca) :=
  ⟨pt_not h.pt, fun σ H ρ τ Q k R q f => h.sim σ H ρ τ _ _ R q fun b ρ1 H1 q1 R1 => f _ _ _ q1 R1⟩
theorem dw_and1 (h : DT X B a tA ca) : DW X B (.BoolOp .And [a] pos) tA ca := ⟨pw_and1 h.pt, h.sim⟩
theorem dw_or1 (h : DT X B a tA ca) : DW X B (.BoolOp .Or [a] pos) tA ca := ⟨pw_or1 h.pt, h.sim⟩
theorem dw_and (h : DT X B a tA ca) (h' : DW X B (.BoolOp .And (b :: rest) pos) tB' cb) : DW X B (.BoolOp .And (a :: b :: rest) pos) (tAnd tA tB') (rAnd ca cb) :=
  ⟨pw_and h.pt h'.pw, fun σ H ρ τ Q k R q f => h.sim σ H ρ τ _ _ R q fun c ρ1 H1 q1 R1 => by
    cases c with
    | true => rw [if_pos rfl]; exact h'.sim σ H1 ρ1 τ _ _ R1 (q1.1 rfl) f
    | false => rw [if_neg Bool.false_ne_true]; exact f _ _ _ (q1.2 rfl) R1⟩
theorem dw_or (h : DT X B a tA ca) (h' : DW X B (.BoolOp .Or (b :: rest) pos) tB' cb) : DW X B (.BoolOp .Or (a :: b :: rest) pos) (tOr tA tB') (rOr ca cb) :=
  ⟨pw_or h.pt h'.pw, fun σ H ρ τ Q k R q f => h.sim σ H ρ τ _ _ R q fun c ρ1 H1 q1 R1 => by
    cases c with
    | true => rw [if_pos rfl]; exact f _ _ _ (q1.1 rfl) R1
    | false => rw [if_neg Bool.false_ne_true]; exact h'.sim σ H1 ρ1 τ _ _ R1 (q1.2 rfl) f⟩
theorem DW.dt (h : DW X B a tA ca) : DT X B a tA ca := ⟨h.pw.pt, h.sim⟩
/-! and, or, not as values: all True or False -/
def rAndV (ra rb : RE) : RE := fun ρ k => ra ρ fun w ρ' => match w with
  | .v (.bl true) => rb ρ' k
  | .v (.bl false) => k (.v (.bl false)) ρ'
  | _ => False
def rOrV (ra rb : RE) : RE := fun ρ k => ra ρ fun w ρ' => match w with
  | .v (.bl true) => k (.v (.bl true)) ρ'
  | .v (.bl false) => rb ρ' k
  | _ => False
def gNot : G1 := fun w k => match w with
  | .v (.bl b) => k (.v (.bl (!b)))
  | _ => False
theorem de_one {op} (h : DE X B a ta ra) : DE X B (.BoolOp op [a] pos) ta ra := ⟨pe_one h.pe, h.sim⟩
theorem de_and (ha : DE X B a ta ra) (hb : DE X B (.BoolOp .And (b :: rest) pos) tb rb) : DE X B (.BoolOp .And (a :: b :: rest) pos) (tAndV ta tb) (rAndV ra rb) :=
  ⟨pe_and ha.pe hb.pe, fun σ H ρ τ Q k R q f => ha.sim σ H ρ τ _ _ R q fun w ρ1 v H1 q1 R1 => by
    split at q1
    · obtain ⟨S, ow, R1⟩ := R1
      have := R1.top
      cases this
      refine ⟨true, rfl, ?_⟩
      rw [if_pos rfl]
      exact hb.sim σ H1 ρ1 τ _ _ ⟨S, ow, R1.pop⟩ q1 f
    · obtain ⟨S, ow, R1⟩ := R1
      have := R1.top
      cases this
      refine ⟨false, rfl, ?_⟩
      rw [if_neg Bool.false_ne_true]
      exact f _ _ _ _ q1 ⟨S, ow, R1⟩
    · exact q1.elim⟩
theorem de_or (ha : DE X B a ta ra) (hb : DE X B (.BoolOp .Or (b :: rest) pos) tb rb) : DE X B (.BoolOp .Or (a :: b :: rest) pos) (tOrV ta tb) (rOrV ra rb) :=
  ⟨pe_or ha.pe hb.pe, fun σ H ρ τ Q k R q f => ha.sim σ H ρ τ _ _ R q fun w ρ1 v H1 q1 R1 => by
    split at q1
    · obtain ⟨S, ow, R1⟩ := R1
      have := R1.top
      cases this
      refine ⟨true, rfl, ?_⟩
      rw [if_pos rfl]
      exact f _ _ _ _ q1 ⟨S, ow, R1⟩
    · obtain ⟨S, ow, R1⟩ := R1
      have := R1.top
      cases this
      refine ⟨false, rfl, ?_⟩
      rw [if_neg Bool.false_ne_true]
      exact hb.sim σ H1 ρ1 τ _ _ ⟨S, ow, R1.pop⟩ q1 f
    · exact q1.elim⟩
theorem de_not (ha : DE X B a ta ra) : DE X B (.UnaryOp .Not a pos) (tNotV ta) (rUn gNot ra) :=
  ⟨pe_not ha.pe, fun σ H ρ τ Q k R q f => ha.sim σ H ρ τ _ _ R q fun w ρ1 v H1 q1 R1 => by
    unfold gNot at q1
    split at q1
    · rename_i b
      obtain ⟨S, ow, R1⟩ := R1
      have := R1.top
      cases this
      exact ⟨b, rfl, f _ _ _ _ q1 ⟨S, ow, R1.pop.push (.bl _)⟩⟩
    · exact q1.elim⟩
def rIfE (c : RT) (ra rb : RE) : RE := fun ρ k => c ρ fun b ρ' => (b = true → ra ρ' k) ∧ (b = false → rb ρ' k)
theorem de_ifE {c : Expr} (hc : DT X B c tA ca) (ha : DE X B a ta ra) (hb : DE X B b tb rb) : DE X B (.IfExp c a b pos) (tIf tA ta tb) (rIfE ca ra rb) :=
  ⟨pe_ifExp hc.pt ha.pe hb.pe, fun σ H ρ τ Q k R q f => hc.sim σ H ρ τ _ _ R q fun c ρ1 H1 q1 R1 => by
    cases c with
    | true => rw [if_pos rfl]; exact ha.sim σ H1 ρ1 τ _ _ R1 (q1.1 rfl) f
    | false => rw [if_neg Bool.false_ne_true]; exact hb.sim σ H1 ρ1 τ _ _ R1 (q1.2 rfl) f⟩
/-! ### statements -/
variable {s : Stmt} {ss body orelse : List Stmt} {ts tss us : TS} {rS rSS rU : RS}
def rNext : RS := fun k ρ => k.nx ρ
def rSeq (a b : RS) : RS := fun k ρ => a { k with nx := b k } ρ
theorem dss_nil : DSs X B [] tNext rNext := ⟨pss_nil, fun τ D k E σ H ρ R q => E.nx _ _ _ R q⟩
theorem dss_cons (h : DS X B s ts rS) (h' : DSs X B ss tss rSS) : DSs X B (s :: ss) (tSeq ts tss) (rSeq rS rSS) :=
  ⟨pss_cons h.ps h'.ps, fun τ D k E σ H ρ R q => h.sim τ { D with nx := tss D } { k with nx := rSS k } ⟨fun σ H ρ R q => h'.sim τ D k E σ H ρ R q, E.bk, E.ct, E.rt⟩ σ H ρ R q⟩
theorem dss_one (h : DS X B s ts rS) : DSs X B [s] ts rS := ⟨pss_one h.ps, h.sim⟩
theorem ds_pass : DS X B (.Pass pos) tNext rNext := ⟨ps_pass, fun τ D k E σ H ρ R q => E.nx _ _ _ R q⟩
def rBreak : RS := fun k ρ => k.bk ρ
def rCont : RS := fun k ρ => k.ct ρ
theorem ds_break : DS X B (.Break pos) tBreak rBreak := ⟨ps_break, fun τ D k E σ H ρ R q => E.bk _ _ _ R q⟩
theorem ds_continue : DS X B (.Continue pos) tCont rCont := ⟨ps_continue, fun τ D k E σ H ρ R q => E.ct _ _ _ R q⟩
def rNever : RS := fun _ _ => False
theorem ds_never : DS X B s tNever rNever := ⟨ps_never, fun _ _ _ _ _ _ _ _ h => h⟩
theorem dss_never : DSs X B ss tNever rNever := ⟨pss_never, fun _ _ _ _ _ _ _ _ h => h⟩
def rDrop (r : RE) : RS := fun k ρ => r ρ fun _ ρ' => k.nx ρ'
theorem ds_expr (h : DE X B e te re) (hs : swapsWith e none pos.line X.env = pure false := by rfl) : DS X B (.Expr e pos) (tDrop te) (rDrop re) :=
  ⟨ps_expr h.pe hs, fun τ D k E σ H ρ R q => h.sim σ H ρ τ _ _ R q fun w ρ' v H' q' R' => E.nx _ _ _ R'.pop q'⟩
def rRet (r : RE) : RS := fun k ρ => r ρ fun w ρ1 => k.rt w ρ1
theorem ds_ret (h : DE X B e te re) : DS X B (.Return (some e) pos) (tRet te) (rRet re) :=
  ⟨ps_ret h.pe, fun τ D k E σ H ρ R q => h.sim σ H ρ τ _ _ R q fun w ρ' v H' q' R' => E.rt _ _ _ _ _ R' q'⟩
def rRetN : RS := fun k ρ => k.rt (.v .non) ρ
theorem ds_retN : DS X B (.Return none pos) tRetN rRetN :=
  ⟨ps_retN, fun τ D k E σ H ρ ⟨S, ow, R⟩ q => E.rt _ _ σ H ρ ⟨S, ow, R.push .non⟩ q⟩
def rIf (c : RT) (a b : RS) : RS := fun k ρ => c ρ fun v ρ' => (v = true → a k ρ') ∧ (v = false → b k ρ')
theorem ds_if {c : Expr} (hc : DT X B c tA ca) (ha : DSs X B body ts rS) (hb : DSs X B orelse us rU) : DS X B (.If c body orelse pos) (tIfS tA ts us) (rIf ca rS rU) :=
  ⟨ps_if hc.pt ha.ps hb.ps, fun τ D k E σ H ρ R q => hc.sim σ H ρ τ _ _ R q fun c ρ1 H1 q1 R1 => by
    cases c with
    | true => rw [if_pos rfl]; exact ha.sim τ D k E σ H1 ρ1 R1 (q1.1 rfl)
    | false => rw [if_neg Bool.false_ne_true]; exact hb.sim τ D k E σ H1 ρ1 R1 (q1.2 rfl)⟩
/-- name = value -/
def rSet (i : Nat) (r : RE) : RS := fun k ρ => r ρ fun w ρ' => k.nx (st ρ' i (some w))
theorem ds_set {i : Nat} {x : Str} {pos' : Pos} (hN : X.N.Nodup) (hi : X.N[i]? = some x) (hx : Loc X.env.scope x) (h : DE X B e te re) (hs : swapsWith e (some (.Name x pos')) pos.line X.env = pure false := by rfl)
    (hf : X.fn x = true ∨ X.env.scope.names.lookup x = some .local := by first | exact .inl rfl | exact .inr rfl | assumption) : DS X B (.Assign [.Name x pos'] e pos) (tAsg te (gName i)) (rSet i re) :=
  ⟨ps_set hN hi hx h.pe hs hf, fun τ D k E σ H ρ R q => h.sim σ H ρ τ _ _ R q fun w ρ' v H' q' ⟨S, ow, R'⟩ => by
    obtain ⟨ow', R2⟩ := R'.toSlot (i := i)
    exact E.nx _ _ _ ⟨S, ow', R2⟩ q'⟩
/-- a, b = x, y -/
def rPar (i j : Nat) (rs : RA) : RS := fun k ρ => rs ρ fun ds ρ' => match ds with
  | [d, d'] => k.nx (st (st ρ' i (some (.v d))) j (some (.v d')))
  | _ => False
theorem ds_par {i j : Nat} {x y : Str} {px py pt : Pos} {kt k2 pt2} (hc : X.calm = true) (hN : X.N.Nodup) (hi : X.N[i]? = some x) (hj : X.N[j]? = some y) (hij : i ≠ j)
    (hx : X.env.scope.names.lookup x = some .local) (hy : X.env.scope.names.lookup y = some .local) (ha : DA X B [a, b] t rs)
    (hw : swappedStores [.Tuple [.Name x px, .Name y py] kt pt] (.Tuple [a, b] k2 pt2) X.env = pure (some [x, y]))
    (hs : swapsWithSole [.Tuple [.Name x px, .Name y py] kt pt] (.Tuple [a, b] k2 pt2) pos.line X.env = pure false := by rfl) : DS X B (.Assign [.Tuple [.Name x px, .Name y py] kt pt] (.Tuple [a, b] k2 pt2) pos) (tPar i j t) (rPar i j rs) :=
  ⟨ps_par hc hN hi hj hij hx hy ha.pa hw hs, fun τ D k E σ H ρ R q => ha.sim σ H ρ τ _ _ R q fun ds ρ' vs H' S ow q' R' r' => by
    split at q'
    · cases r' with
      | cons r1 r2 =>
        cases r2 with
        | cons r2 r3 =>
          cases r3
          obtain ⟨ow1, R1⟩ := (R'.push r1).toSlot (i := i)
          obtain ⟨ow2, R2⟩ := (R1.push r2).toSlot (i := j)
          exact ⟨_, _, rfl, E.nx _ _ _ ⟨S, ow2, R2⟩ q'⟩
    · exact q'.elim⟩
/-- while: W by what falls -/
def rWhile (c : RT) (b : RS) : RS := fun k ρ => ∃ W : Nat → EN → Prop, (∃ m, W m ρ) ∧ ∀ m ρ, W m ρ → c ρ fun v ρ1 => (v = true → b { k with nx := fun ρ' => ∃ m', m' < m ∧ W m' ρ', ct := fun ρ' => ∃ m', m' < m ∧ W m' ρ', bk := k.nx } ρ1) ∧ (v = false → k.nx ρ1)
theorem ds_while {c : Expr} (hp : PassesOwn (model X.prog X.w) X.A X.env X.xe) (hc : DT X B c tA ca) (hb : DSs X B body ts rS) : DS X B (.While c body [] pos) (tWhile tA ts) (rWhile ca rS) :=
  ⟨ps_while hp hc.pt hb.ps, fun τ D k E σ H ρ R q => by
    obtain ⟨W, ⟨m0, h0⟩, hW⟩ := q
    refine ⟨fun m σ H => ∃ ρ, W m ρ ∧ Rel X.K B σ H ρ τ, ⟨m0, ρ, h0, R⟩, ?_⟩
    rintro m σ H ⟨ρ, hi, R⟩
    refine hc.sim σ H ρ τ _ _ R (hW m ρ hi) fun v ρ1 H1 q1 R1 => ?_
    cases v with
    | true =>
      rw [if_pos rfl]
      refine ⟨fun σ' H' => ∃ m' ρ', m' < m ∧ W m' ρ' ∧ Rel X.K B σ' H' ρ' τ, fun σ' H' ⟨m', ρ', l', i', R'⟩ => ⟨m', l', ρ', i', R'⟩, ?_⟩
      exact hb.sim τ { D with nx := _, ct := _, bk := D.nx } { k with nx := _, ct := _, bk := k.nx } ⟨fun σ H ρ R ⟨m', l, q⟩ => ⟨m', ρ, l, q, R⟩, fun σ H ρ R q => E.nx _ _ _ R q, fun σ H ρ R ⟨m', l, q⟩ => ⟨m', ρ, l, q, R⟩, E.rt⟩ σ H1 ρ1 R1 (q1.1 rfl)
    | false =>
      rw [if_neg Bool.false_ne_true]
      exact E.nx _ _ _ R1 (q1.2 rfl)⟩
/-- .. by a datum that tells the names' values -/
theorem while_by {α : Type} (E : α → EN) (I : α → Prop) (μ : α → Nat) {c : RT} {b : RS} {k : KD} {ρ : EN} (a0 : α) (h0 : I a0)
    (h : ∀ a, I a → c (E a) fun v ρ1 => (v = true → b { k with nx := fun ρ' => ∃ m', m' < μ a ∧ ∃ a', ρ' = E a' ∧ I a' ∧ m' = μ a', ct := fun ρ' => ∃ m', m' < μ a ∧ ∃ a', ρ' = E a' ∧ I a' ∧ m' = μ a', bk := k.nx } ρ1) ∧ (v = false → k.nx ρ1))
    (e0 : ρ = E a0 := by rfl) : rWhile c b k ρ := by
  refine ⟨fun m ρ => ∃ a, ρ = E a ∧ I a ∧ m = μ a, ⟨μ a0, a0, e0, h0, rfl⟩, ?_⟩
  rintro m ρ ⟨a, rfl, hi, rfl⟩
  exact h a hi
end
end DL

set_option maxHeartbeats 1000000
namespace DL
open PySem PySem.Spec PyProof.Rows L2
/-! ### promises -/
abbrev SpD := List D → (W → Prop) → (Ex → Prop) → Prop
/-- what a call leaves: the heap H before, H' behind, S and S' what never changes -/
structure Left (K : PySem.W.Frag) (S : Addr → Prop) (z : Option (Addr × Addr)) (H H' : Hp) (S' : Addr → Prop) : Prop where
  kp : ∀ a o, H a = some o → (∀ c, z ≠ some (a, c)) → H' a = some o
  s0 : ∀ a, S a → S' a
  s1 : ∀ a, S' a → S a ∨ H a = none
  sh : ∀ a, S' a → ∃ o, H' a = some o
  zo : Sto K S' z H'
/-- its value -/
def Rr (K : PySem.W.Frag) (S' : Addr → Prop) (z : Option (Addr × Addr)) (H H' : Hp) (v : V) : W → Prop
  | .v d => Rp K S' z H' v d
  | .o ds => ∃ a vs, v = .ref a ∧ H a = none ∧ ¬ S' a ∧ H' a = some (.lst vs) ∧ RpB K S' z H' vs ds
  | .od kds => ∃ a kvs, v = .ref a ∧ H a = none ∧ ¬ S' a ∧ H' a = some (.dK kvs) ∧ kvs.map (·.1) = kds.map (·.1) ∧ RpA K S' z H' (kvs.map (·.2)) (kds.map (·.2))
/-- its exception -/
def Rx (K : PySem.W.Frag) (S' : Addr → Prop) (z : Option (Addr × Addr)) (H' : Hp) (cls : Value) (od : Option Addr) (x : Ex) : Prop :=
  cls = x.cls ∧ match x.fs with
    | none => od = none
    | some l => ∃ d lv, od = some d ∧ S' d ∧ H' d = some (.xd lv) ∧ lv.map (·.1) = l.map (·.1) ∧ RpA K S' z H' (lv.map (·.2)) (l.map (·.2))
def lift (K : PySem.W.Frag) (sp : SpD) : Sp := fun vs H Q E => ∃ (ds : List D) (S : Addr → Prop) (z : Option (Addr × Addr)) (q : W → Prop) (x : Ex → Prop),
  RpA K S z H vs ds ∧ (∀ a c, z = some (a, c) → ¬ S a) ∧ (∀ a, S a → ∃ o, H a = some o) ∧ Sto K S z H ∧ sp ds q x ∧
    (∀ w v H' S', q w → Left K S z H H' S' → Rr K S' z H H' v w → Q v H') ∧ (∀ e cls od H' S', x e → Left K S z H H' S' → Rx K S' z H' cls od e → E cls od H')
/-- the owners without the shared -/
noncomputable def owS (S' : Addr → Prop) (ow : Addr → Option Ow) : Addr → Option Ow := fun a => open Classical in if S' a then none else ow a
theorem owS_in {S' : Addr → Prop} {ow : Addr → Option Ow} {a : Addr} (h : S' a) : owS S' ow a = none := by unfold owS; rw [if_pos h]
theorem owS_out {S' : Addr → Prop} {ow : Addr → Option Ow} {a : Addr} (h : ¬ S' a) : owS S' ow a = ow a := by unfold owS; rw [if_neg h]
section
variable {K : PySem.W.Frag} {B : Bs} {S S' : Addr → Prop} {ow : Addr → Option Ow} {σ : L2.St} {H H' : Hp} {ρ : EN} {τ : List (V × W)} {v : V} {w : W}
theorem Left.kps {z : Option (Addr × Addr)} (L : Left K S z H H' S') (hz : ∀ a c, z = some (a, c) → ¬ S a) (zo : Sto K S z H) : Kp S H H' := fun a o e h => by
  refine L.kp a o e fun c q => ?_
  rcases h with h | h
  · exact hz a c q h
  · obtain ⟨i, j, k, l, h1, _⟩ := zo a c q
    rw [e] at h1
    cases h1
    exact h
theorem RelS.after0 (R : RelS K B S ow σ H ρ τ) (L : Left K S B.z H H' S') : RelS K B S' (owS S' ow) σ H' ρ τ := by
  have kk := L.kps R.sz R.zo
  have ko : ∀ {q : Ow} {v : V} {w : W}, Rw K S B.z H ow q v w → Rw K S' B.z H' (owS S' ow) q v w := fun {q v w} h => by
    have key : ∀ a u, ow a = some q → H a = some u → owS S' ow a = some q ∧ H' a = some u := fun a u e hu => by
      have nS : ¬ S' a := fun s => by
        rcases L.s1 a s with s | s
        · have := R.so a s
          rw [e] at this; cases this
        · rw [hu] at s; cases s
      refine ⟨by rw [owS_out nS]; exact e, L.kp a u hu fun c z => ?_⟩
      have := R.oz a c z
      rw [e] at this; cases this
    cases w with
    | v d => exact Rp.mono L.s0 kk h
    | o ds =>
      obtain ⟨a, vs, e, ho, hh, r⟩ := h
      obtain ⟨h1, h2⟩ := key a _ ho hh
      exact ⟨a, vs, e, h1, h2, RpB.mono L.s0 kk r⟩
    | od ds =>
      obtain ⟨a, vs, e, ho, hh, q', r⟩ := h
      obtain ⟨h1, h2⟩ := key a _ ho hh
      exact ⟨a, vs, e, h1, h2, q', RpA.mono L.s0 kk r⟩
  have kt : ∀ {t : List (V × W)}, Tok K S B.z H ow t → Tok K S' B.z H' (owS S' ow) t := by
    intro t
    induction t with
    | nil => intro _; trivial
    | cons x t ih => intro h; exact ⟨ko h.1, ih h.2⟩
  exact {
    s0 := fun a s => L.s0 a (R.s0 a s)
    s1 := fun a s => by
      rcases L.s1 a s with s | s
      · exact R.s1 a s
      · exact .inr (R.fresh0 s)
    sz := fun a c e s => by
      rcases L.s1 a s with s | s
      · exact R.sz a c e s
      · exact R.freshZ s c e
    sh := L.sh
    so := fun a s => owS_in s
    oh := fun a o e => by
      by_cases s : S' a
      · rw [owS_in s] at e; cases e
      · rw [owS_out s] at e; exact R.oh a o e
    oz := fun a c e => by
      by_cases s : S' a
      · exact owS_in s
      · rw [owS_out s]; exact R.oz a c e
    fr := fun a o e n => L.kp a o (R.fr a o e n) n
    zo := L.zo
    z0 := R.z0
    len := R.len
    sl := fun i w e => by
      obtain ⟨v, h1, h2⟩ := R.sl i w e
      exact ⟨v, h1, ko h2⟩
    tm := kt R.tm }
/-- behind a call -/
theorem RelS.after (R : RelS K B S ow σ H ρ τ) (L : Left K S B.z H H' S') (r : Rr K S' B.z H H' v w) : Rel K B σ H' ρ ((v, w) :: τ) := by
  have R1 := R.after0 L
  have own : ∀ (p : Addr), H p = none → ¬ S' p → (∀ ow' : Addr → Option Ow, ow' p = some (.temp τ.length) → Rw K S' B.z H' ow' (.temp τ.length) v w) → Rel K B σ H' ρ ((v, w) :: τ) := fun p hp nS hw => by
    have ne : ∀ a u, H a = some u → a ≠ p := fun a u e => ne_of_none e hp
    -- the places that the slots and temporaries own stood before
    have kk := L.kps R.sz R.zo
    have ko : ∀ {q : Ow} {v : V} {w : W}, Rw K S B.z H ow q v w → Rw K S' B.z H' (owAt (owS S' ow) p (some (.temp τ.length))) q v w := fun {q v w} h => by
      have key : ∀ a u, ow a = some q → H a = some u → owAt (owS S' ow) p (some (.temp τ.length)) a = some q ∧ H' a = some u := fun a u e hu => by
        have nS : ¬ S' a := fun s => by
          rcases L.s1 a s with s | s
          · have := R.so a s
            rw [e] at this; cases this
          · rw [hu] at s; cases s
        refine ⟨by rw [owAt_ne (ne a u hu), owS_out nS]; exact e, L.kp a u hu fun c z => ?_⟩
        have := R.oz a c z
        rw [e] at this; cases this
      cases w with
      | v d => exact Rp.mono L.s0 kk h
      | o ds =>
        obtain ⟨a, vs, e, ho, hh, r⟩ := h
        obtain ⟨h1, h2⟩ := key a _ ho hh
        exact ⟨a, vs, e, h1, h2, RpB.mono L.s0 kk r⟩
      | od ds =>
        obtain ⟨a, vs, e, ho, hh, q', r⟩ := h
        obtain ⟨h1, h2⟩ := key a _ ho hh
        exact ⟨a, vs, e, h1, h2, q', RpA.mono L.s0 kk r⟩
    have kt : ∀ {t : List (V × W)}, Tok K S B.z H ow t → Tok K S' B.z H' (owAt (owS S' ow) p (some (.temp τ.length))) t := by
      intro t
      induction t with
      | nil => intro _; trivial
      | cons x t ih => intro h; exact ⟨ko h.1, ih h.2⟩
    exact ⟨S', owAt (owS S' ow) p (some (.temp τ.length)), { R1 with
      so := fun a s => by
        have hne : a ≠ p := fun e => nS (e ▸ s)
        rw [owAt_ne hne]; exact R1.so a s
      oh := fun a q e => by
        by_cases ha : a = p
        · rw [ha]; exact R.fresh0 hp
        · rw [owAt_ne ha] at e; exact R1.oh a q e
      oz := fun a c e => by
        have hne : a ≠ p := fun q => R.freshZ hp c (q ▸ e)
        rw [owAt_ne hne]; exact R1.oz a c e
      sl := fun i w e => by
        obtain ⟨v, h1, h2⟩ := R.sl i w e
        exact ⟨v, h1, ko h2⟩
      tm := ⟨hw _ owAt_same, kt R.tm⟩ }⟩
  cases w with
  | v d => exact ⟨_, _, R1.push r⟩
  | o ds =>
    obtain ⟨a, vs, e, h1, h2, h3, h4⟩ := r
    exact own a h1 h2 fun ow' ho => ⟨a, vs, e, ho, h3, h4⟩
  | od ds =>
    obtain ⟨a, vs, e, h1, h2, h3, h4, h5⟩ := r
    exact own a h1 h2 fun ow' ho => ⟨a, vs, e, ho, h3, h4, h5⟩
/-- the entry -/
def startE : Nat → List D → EN
  | 0, _ => []
  | n + 1, [] => none :: startE n []
  | n + 1, d :: ds => some (.v d) :: startE n ds
theorem startE_len : ∀ (n : Nat) (ds : List D), (startE n ds).length = n
  | 0, _ => by simp [startE]
  | n + 1, [] => by simp [startE, startE_len n []]
  | n + 1, d :: ds => by simp [startE, startE_len n ds]
theorem gt_nil0 : ∀ (n i : Nat), gt (startE n []) i = none
  | 0, _ => rfl
  | n + 1, 0 => rfl
  | n + 1, i + 1 => gt_nil0 n i
theorem gt_startE : ∀ {n : Nat} {ds : List D} {i : Nat} {w : W}, gt (startE n ds) i = some w → ∃ d, ds[i]? = some d ∧ w = .v d
  | 0, _, i, w, h => by simp [startE, gt] at h
  | n + 1, [], i, w, h => by rw [gt_nil0] at h; cases h
  | n + 1, d :: ds, 0, w, h => by
    simp only [startE, gt] at h
    exact ⟨d, rfl, (Option.some.inj h).symm⟩
  | n + 1, d :: ds, i + 1, w, h => by
    simp only [startE, gt] at h
    obtain ⟨d', h1, h2⟩ := gt_startE h
    exact ⟨d', by simpa using h1, h2⟩
theorem rel_start {N : List Str} {vs : List V} {ds : List D} {z : Option (Addr × Addr)} {Wx : L2.WX} {xkx : Ex → EN → Prop} (hn : ds.length ≤ N.length) (r : RpA K S z H vs ds) (hz : ∀ a c, z = some (a, c) → ¬ S a) (sh : ∀ a, S a → ∃ o, H a = some o) (zo : Sto K S z H) :
    RelS K ⟨H, S, Wx, xkx, z⟩ S (fun _ => none) (L2.start N vs) H (startE N.length ds) [] where
  s0 := fun _ s => s
  s1 := fun _ s => .inl s
  sz := hz
  sh := sh
  so := fun _ _ => rfl
  oh := fun _ _ e => nomatch e
  oz := fun _ _ _ => rfl
  fr := fun _ _ e _ => e
  zo := zo
  z0 := fun a c e => let ⟨_, _, _, _, h, _⟩ := zo a c e; ⟨_, h⟩
  len := by
    have := r.length
    rw [startE_len]
    unfold L2.start
    simp
    omega
  sl := fun i w e => by
    obtain ⟨d, h1, rfl⟩ := gt_startE e
    obtain ⟨v, h2, h3⟩ := r.get h1
    refine ⟨v, ?_, h3⟩
    have hl : i < vs.length := (List.getElem?_eq_some_iff.mp h2).1
    unfold L2.start
    rw [List.getElem?_append_left (by simpa using hl), List.getElem?_map, h2]
    rfl
  tm := trivial
/-- the end: what is handed back -/
theorem RelS.left {Wx : L2.WX} {xkx : Ex → EN → Prop} {z : Option (Addr × Addr)} {S0 : Addr → Prop} {H0 : Hp} (R : RelS K ⟨H0, S0, Wx, xkx, z⟩ S ow σ H ρ τ) : Left K S0 z H0 H S where
  kp := R.fr
  s0 := R.s0
  s1 := R.s1
  sh := R.sh
  zo := R.zo
theorem RelS.rr {Wx : L2.WX} {xkx : Ex → EN → Prop} {z : Option (Addr × Addr)} {S0 : Addr → Prop} {H0 : Hp} (R : RelS K ⟨H0, S0, Wx, xkx, z⟩ S ow σ H ρ ((v, w) :: τ)) : Rr K S z H0 H v w := by
  have h := R.top
  cases w with
  | v d => exact h
  | o ds =>
    obtain ⟨a, vs, e, ho, hh, r⟩ := h
    exact ⟨a, vs, e, R.oh a _ ho, (fun s => by have := R.so a s; rw [ho] at this; cases this), hh, r⟩
  | od ds =>
    obtain ⟨a, vs, e, ho, hh, q, r⟩ := h
    exact ⟨a, vs, e, R.oh a _ ho, (fun s => by have := R.so a s; rw [ho] at this; cases this), hh, q, r⟩
end
/-! ### a def that may be called -/
/-- the def under the module's name x keeps sp; dds fill up the written arguments -/
structure Cal (P : Program) (w : World) (K : PySem.W.Frag) (mg : Str → Option Value) (base : Heap) (k : Nat) (x : Str) (sp : SpD) (dvs : List V) (dds : List D) : Prop where
  ex : ∃ (f : Addr) (fd : FuncData) (ps : List Str) (dus : List Value), FnOk P w K mg base (L2N.CX P w) k f fd ps (lift K sp) ∧ mg x = some (.ref f) ∧ PySem.W.keepIn K (.ref f) = true ∧ Binds K fd ps dus ∧ Vals dvs dus ∧ ∀ S z H, RpA K S z H dvs dds
theorem Cal.mono {P : Program} {w : World} {K : PySem.W.Frag} {mg : Str → Option Value} {base : Heap} {k j : Nat} {x : Str} {sp : SpD} {dvs : List V} {dds : List D} (c : Cal P w K mg base k x sp dvs dds) (h : k ≤ j) : Cal P w K mg base j x sp dvs dds := by
  obtain ⟨f, fd, ps, dus, F, r⟩ := c.ex
  exact ⟨f, fd, ps, dus, F.mono h, r⟩
section
variable {X : Cx} {B : Bs} {x : Str} {p pos : Pos} {e : Expr} {es : List Expr} {t : TA} {ra : RA} {k : Nat} {sp : SpD} {dvs : List V} {dds : List D}
theorem passN {X : Cx} : Passes (L2N.CX X.prog X.w) X E0 := fun _ _ _ _ _ _ _ h => by
  obtain ⟨_, _, _, _, _, _, _, _, _, _, _, _, z⟩ := h
  exact z.elim
theorem okN {P : Program} {w : World} {K : PySem.W.Frag} {mg : Str → Option Value} {base : Heap} {k : Nat} {f : Addr} {fd : FuncData} {ps : List Str} {sp : Sp} {CX : CXT} (F : FnOk P w K mg base CX0 k f fd ps sp) : FnOk P w K mg base CX k f fd ps sp :=
  ⟨F.len, fun A outer s H args us vs Q E hr e0 hb r h => codeAny_mono (F.run A outer s H args us vs Q E hr e0 hb r h) fun r s' hq => by
    cases r with
    | error e => exact hq.elim
    | ok fl =>
      cases fl with
      | ret u => exact hq
      | next => exact hq.elim
      | brk => exact hq.elim
      | cont => exact hq.elim⟩
/-- f(..) -/
def rCall (sp : SpD) (dds : List D) (ra : RA) : RE := fun ρ k => ra ρ fun ds ρ' => sp (ds ++ dds) (fun w => k w ρ') fun _ => False
theorem call_sim {σ : L2.St} {H : Hp} {ρ : EN} {τ : List (V × W)} {S : Addr → Prop} {ow : Addr → Option Ow} {vs : List V} {ds : List D} {Q : VK} {q : W → Prop} {K : PySem.W.Frag} (R : RelS K B S ow σ H ρ τ) (r : RpA K S B.z H vs ds) (h : sp ds q fun _ => False)
    (f : ∀ w v H', q w → Rel K B σ H' ρ ((v, w) :: τ) → Q v H') : lift K sp vs H Q E0 :=
  ⟨ds, S, B.z, q, _, r, R.sz, R.sh, R.zo, h, fun w v H' S' hq L rr => f w v H' hq (R.after L rr), fun _ _ _ _ _ z => z.elim⟩
theorem de_call (c : Cal X.prog X.w X.K X.mg X.base k x sp dvs dds) (hr : Room k X.A) (ha : DA X B (e :: es) t ra) (hg : Gl X x := by rfl)
    (hdb : (x == ("__debug__" : Str)) = false := by decide) (he : starEach (e :: es) X.env = (false, eval e X.env) :: starEach es X.env := by rfl) (hpl : (backTo pos (starEach es X.env)).any (·.1) = false := by rfl) :
    DE X B (.Call (.Name x p) (e :: es) [] pos) (tCall (lift X.K sp) dvs E0 t) (rCall sp dds ra) := by
  obtain ⟨f, fd, ps, dus, F, hm, hk, hb, hd, hdd⟩ := c.ex
  exact ⟨pe_call F hr hg hm hk hb hd passN ha.pa hdb he hpl, fun σ H ρ τ Q q R h g => ha.sim σ H ρ τ _ _ R h fun ds ρ' vs H' S ow h' R' r' => call_sim R' (r'.append (hdd _ _ _)) h' fun w v H2 hq R2 => g w ρ' v H2 hq R2⟩

/-- f() -/
theorem de_call0 (c : Cal X.prog X.w X.K X.mg X.base k x sp dvs dds) (hr : Room k X.A) (hg : Gl X x := by rfl) (hdb : (x == ("__debug__" : Str)) = false := by decide) :
    DE X B (.Call (.Name x p) [] [] pos) (tCall (lift X.K sp) dvs E0 tNil) (rCall sp dds rNil) := by
  obtain ⟨f, fd, ps, dus, F, hm, hk, hb, hd, hdd⟩ := c.ex
  exact ⟨pe_call0 F hr hg hm hk hb hd passN hdb, fun σ H ρ τ Q q ⟨S, ow, R⟩ h g => call_sim R (RpA.append .nil (hdd _ _ _)) h fun w v H2 hq R2 => g w ρ v H2 hq R2⟩
end
section
variable {P : Program} {w : World} {K : PySem.W.Frag} {mg : Str → Option Value} {base : Heap}
/-- a def keeps its promise: its body as a derivation, and what the derivation's reading says -/
theorem fn_okD {x qual : Str} {params : Arguments} {body : List Stmt} {scope : Scope} {dvs : List V} {kws : List (Str × V)} {f : Addr} {fd : FuncData} {N ps : List Str} {k : Nat} {sp : SpD}
    (F : FunD K x qual params body scope dvs kws f fd) (S : FnScope N ps scope) (hl : ∀ ds q x, sp ds q x → ds.length = ps.length)
    (hbody : ∀ (cdv : Value) (A : Around) (outer : List Env) (s : Shared) (H : Hp) (E : XK) (B : Bs), Room k (A.deeper (envOfC qual scope s.heap.objs.size f cdv)) →
      ∃ t r, DSs (cxOf CX0 P w K mg base N qual scope f cdv A outer s H E).nox B body t r ∧ ∀ ds q x, sp ds q x → r ⟨fun _ => q (.v .non), fun w _ => q w, fun _ => False, fun _ => False⟩ (startE N.length ds)) :
    FnOk P w K mg base (L2N.CX P w) (k + 1) f fd ps (lift K sp) := by
  refine okN (F.ok S (fun vs H Q E h => ?_) (fun cdv A outer s H vs Q E hr h => ?_))
  · obtain ⟨ds, S, z, q, x, r, _, _, _, h, _⟩ := h
    rw [r.length]
    exact hl _ _ _ h
  · obtain ⟨ds, S0, z, q, x, r, hz, sh, zo, h, g, _⟩ := h
    obtain ⟨t, rd, d, hd⟩ := hbody cdv A outer s H E ⟨H, S0, fun _ _ _ _ => False, fun _ _ => False, z⟩ hr
    refine ⟨t, d.ps.nox, ?_⟩
    refine d.sim [] { nx := fun _ H' => Q .non H', rt := Q } ⟨fun _ => q (.v .non), fun w _ => q w, fun _ => False, fun _ => False⟩ ⟨fun σ H' ρ R e => ?_, fun _ _ _ _ e => e.elim, fun _ _ _ _ e => e.elim, fun v w σ H' ρ R e => ?_⟩ _ H _ ⟨S0, _, rel_start (by
      have h1 := hl _ _ _ h
      have h2 := congrArg List.length S.pre
      rw [List.length_take] at h2
      omega) r hz sh zo⟩ (hd ds q x h)
    · obtain ⟨S, ow, R⟩ := R
      exact g _ _ _ S e R.left .non
    · obtain ⟨S, ow, R⟩ := R
      exact g _ _ _ S e R.left R.rr
/-- .. and may be called -/
theorem Cal.of {x qual : Str} {params : Arguments} {body : List Stmt} {scope : Scope} {dvs : List V} {kws : List (Str × V)} {f : Addr} {fd : FuncData} {ps : List Str} {k : Nat} {sp : SpD}
    (F : FunD K x qual params body scope [] kws f fd) (o : FnOk P w K mg base (L2N.CX P w) k f fd ps (lift K sp)) (hm : mg x = some (.ref f))
    (h : ∀ (kV doc pm : Value) (an : Option Addr) (cdv ct : Value) (us : List Value), us.length = ps.length → bindArgs (PySem.W.fnOf x qual params body scope .none kV doc pm an cdv ct) ⟨us, []⟩ = pure (ps.zip us)) : Cal P w K mg base k x sp [] [] :=
  ⟨f, fd, ps, [], o, hm, F.kp, F.bindsN h, .nil, fun _ _ _ => .nil⟩
end
end DL

set_option maxHeartbeats 1000000
namespace DL
open PySem PySem.Spec PyProof.Rows L2
section
variable {K : PySem.W.Frag} {B : Bs} {S S' : Addr → Prop} {ow : Addr → Option Ow} {σ : L2.St} {H H' : Hp} {ρ : EN} {τ : List (V × W)} {v : V} {w : W}
theorem Rel.popMany : ∀ {hs : List (V × W)}, Rel K B σ H ρ (hs ++ τ) → Rel K B σ H ρ τ
  | [], R => R
  | _ :: hs, R => Rel.popMany (hs := hs) R.pop
theorem Tok.tail {z : Option (Addr × Addr)} : ∀ {hs : List (V × W)}, Tok K S z H ow (hs ++ τ) → Tok K S z H ow τ
  | [], h => h
  | _ :: hs, h => Tok.tail (hs := hs) h.2
/-- the temporaries below the top are taken out -/
theorem Rel.dropMid {hs : List (V × W)} (R : Rel K B σ H ρ ((v, w) :: (hs ++ τ))) : Rel K B σ H ρ ((v, w) :: τ) := by
  obtain ⟨S, ow, R⟩ := R
  have ht := R.top
  have R1 : RelS K B S ow σ H ρ τ := { R with tm := Tok.tail R.pop.tm }
  have own : ∀ (a : Addr), ow a = some (.temp (hs ++ τ).length) → (Rw K S B.z H (owAt ow a (some (.temp τ.length))) (.temp τ.length) v w) → Rel K B σ H ρ ((v, w) :: τ) := fun a ho hw => by
    have ko : ∀ {q : Ow} {v : V} {w : W}, q ≠ .temp (hs ++ τ).length → Rw K S B.z H ow q v w → Rw K S B.z H (owAt ow a (some (.temp τ.length))) q v w := fun {q v w} hq h => by
      have ne : ∀ b, ow b = some q → b ≠ a := fun b e z => by rw [z, ho] at e; exact hq (Option.some.inj e).symm
      cases w with
      | v d => exact h
      | o ds =>
        obtain ⟨b, vs, e, ho', r⟩ := h
        exact ⟨b, vs, e, (owAt_ne (ne b ho')).trans ho', r⟩
      | od ds =>
        obtain ⟨b, vs, e, ho', r⟩ := h
        exact ⟨b, vs, e, (owAt_ne (ne b ho')).trans ho', r⟩
    have kt : ∀ {t : List (V × W)}, t.length ≤ τ.length → Tok K S B.z H ow t → Tok K S B.z H (owAt ow a (some (.temp τ.length))) t := by
      intro t
      induction t with
      | nil => intro _ _; trivial
      | cons x t ih =>
        intro hl h
        refine ⟨ko (fun e => ?_) h.1, ih (by simp at hl; omega) h.2⟩
        have e2 := Ow.temp.inj e
        simp at hl e2
        omega
    exact ⟨S, owAt ow a (some (.temp τ.length)), { R1 with
      so := fun b s => by
        have hb : b ≠ a := fun q => by
          rw [q] at s
          have := R.so a s
          rw [ho] at this; cases this
        exact (owAt_ne hb).trans (R.so b s)
      oh := fun b o e => by
        by_cases hb : b = a
        · rw [hb]; exact R.oh a _ ho
        · rw [owAt_ne hb] at e; exact R.oh b o e
      oz := fun b c e => by
        have hb : b ≠ a := fun q => by
          rw [q] at e
          have := R.oz a c e
          rw [ho] at this; cases this
        exact (owAt_ne hb).trans (R.oz b c e)
      sl := fun j w' e => by
        obtain ⟨v', q1, q2⟩ := R1.sl j w' e
        exact ⟨v', q1, ko (fun z => by cases z) q2⟩
      tm := ⟨hw, kt (Nat.le_refl _) R1.tm⟩ }⟩
  cases w with
  | v d => exact ⟨S, ow, R1.push ht⟩
  | o ds =>
    obtain ⟨a, vs, e, ho, r⟩ := id ht
    exact own a ho ⟨a, vs, e, owAt_same, r⟩
  | od ds =>
    obtain ⟨a, vs, e, ho, r⟩ := id ht
    exact own a ho ⟨a, vs, e, owAt_same, r⟩
theorem EndsR.more {D : Ends} {k : KD} (E : EndsR K B τ D k) (hs : List (V × W)) : EndsR K B (hs ++ τ) D k :=
  ⟨fun σ H ρ R => E.nx σ H ρ R.popMany, fun σ H ρ R => E.bk σ H ρ R.popMany, fun σ H ρ R => E.ct σ H ρ R.popMany, fun v w σ H ρ R => E.rt v w σ H ρ R.dropMid⟩
end
/-! ### targets -/
structure DG (X : Cx) (B : Bs) (tg : Expr) (g : TG) (r : D → EN → (EN → Prop) → Prop) : Prop where
  pg : PG X tg g
  sim : ∀ (v : V) (d : D) (σ : L2.St) (H : Hp) (ρ : EN) (τ : List (V × W)) (Q : L2.St → Hp → Prop) (k : EN → Prop), Rel X.K B σ H ρ ((v, .v d) :: τ) → r d ρ k → (∀ ρ' σ' H', k ρ' → Rel X.K B σ' H' ρ' τ → Q σ' H') → g v σ H Q
def temps (vs : List V) (ds : List D) : List (V × W) := List.zipWith (fun v d => (v, W.v d)) vs ds
structure DGs (X : Cx) (B : Bs) (tgs : List Expr) (g : TGs) (r : List D → EN → (EN → Prop) → Prop) : Prop where
  pgs : PGs X tgs g
  sim : ∀ (vs : List V) (ds : List D) (σ : L2.St) (H : Hp) (ρ : EN) (τ : List (V × W)) (Q : L2.St → Hp → Prop) (k : EN → Prop), vs.length = ds.length → Rel X.K B σ H ρ (temps vs ds ++ τ) → r ds ρ k → (∀ ρ' σ' H', k ρ' → Rel X.K B σ' H' ρ' τ → Q σ' H') → g vs σ H Q
section
variable {X : Cx} {B : Bs} {pos : Pos}
def sgName (i : Nat) : D → EN → (EN → Prop) → Prop := fun d ρ k => k (st ρ i (some (.v d)))
theorem dg_name {i : Nat} {x : Str} (hN : X.N.Nodup) (hi : X.N[i]? = some x) (hx : Loc X.env.scope x) (hf : X.fn x = true ∨ X.env.scope.names.lookup x = some .local := by first | exact .inl rfl | exact .inr rfl | assumption) : DG X B (.Name x pos) (gName i) (sgName i) :=
  ⟨pg_name hN hi hx hf, fun v d σ H ρ τ Q k ⟨S, ow, R⟩ q f => by
    obtain ⟨ow', R'⟩ := R.toSlot (i := i)
    exact f _ _ _ q ⟨S, ow', R'⟩⟩
def sgNil : List D → EN → (EN → Prop) → Prop := fun ds ρ k => ds = [] ∧ k ρ
def sgCons (g : D → EN → (EN → Prop) → Prop) (gs : List D → EN → (EN → Prop) → Prop) : List D → EN → (EN → Prop) → Prop := fun ds ρ k => match ds with
  | d :: ds => g d ρ fun ρ' => gs ds ρ' k
  | [] => False
def sgTup (n : Nat) (gs : List D → EN → (EN → Prop) → Prop) : D → EN → (EN → Prop) → Prop := fun d ρ k => match d with
  | .tup ds => ds.length = n ∧ gs ds ρ k
  | _ => False
theorem dgs_nil : DGs X B [] gNil sgNil := ⟨pgs_nil, fun vs ds σ H ρ τ Q k hl R q f => by
  obtain ⟨rfl, q⟩ := q
  have e : vs = [] := List.length_eq_zero_iff.mp hl
  subst e
  exact ⟨rfl, f _ _ _ q R⟩⟩
theorem dgs_cons {e : Expr} {es : List Expr} {t : TG} {u : TGs} {r : D → EN → (EN → Prop) → Prop} {rs : List D → EN → (EN → Prop) → Prop} (h1 : DG X B e t r) (h2 : DGs X B es u rs)
    (hs : (assignEach (e :: es) X.env).map (·.2) = assign e X.env :: (assignEach es X.env).map (·.2) := by rfl) : DGs X B (e :: es) (gCons t u) (sgCons r rs) :=
  ⟨pgs_cons h1.pg h2.pgs hs, fun vs ds σ H ρ τ Q k hl R q f => by
    cases ds with
    | nil => exact q.elim
    | cons d ds =>
      cases vs with
      | nil => cases hl
      | cons v vs =>
        refine ⟨v, vs, rfl, ?_⟩
        exact h1.sim v d σ H ρ (temps vs ds ++ τ) _ _ R q fun ρ' σ' H' q' R' => h2.sim vs ds σ' H' ρ' τ Q k (by simpa using hl) R' q' f⟩
theorem temps_push {K : PySem.W.Frag} {S : Addr → Prop} {ow : Addr → Option Ow} {σ : L2.St} {H : Hp} {ρ : EN} {τ : List (V × W)} (R : RelS K B S ow σ H ρ τ) : ∀ {vs : List V} {ds : List D}, RpA K S B.z H vs ds → RelS K B S ow σ H ρ (temps vs ds ++ τ)
  | _, _, .nil => R
  | _, _, .cons h r => (temps_push R r).push h
theorem dg_tup {es : List Expr} {kk : Nat} {t : TGs} {rs : List D → EN → (EN → Prop) → Prop} {n : Nat} (hc : X.calm = true) (h : DGs X B es t rs)
    (hn : (assignEach es X.env).length = n := by rfl) (hst : (assignEach es X.env).findIdx? (·.1) = none := by rfl) : DG X B (.Tuple es kk pos) (gTup X.K n t) (sgTup n rs) :=
  ⟨pg_tup hc h.pgs hn hst, fun v d σ H ρ τ Q k ⟨S, ow, R⟩ q f => by
    unfold sgTup at q
    split at q
    · obtain ⟨a, vs, rfl, h1, l, r⟩ := R.top.tup
      refine ⟨a, vs, rfl, h1, by rw [r.length]; exact q.1, ?_⟩
      exact h.sim vs _ σ H ρ τ Q k r.length ⟨S, ow, temps_push R.pop r⟩ q.2 f
    · exact q.elim⟩
/-- a, b = e (e a tuple); any target -/
def rAsg (re : RE) (g : D → EN → (EN → Prop) → Prop) : RS := fun k ρ => re ρ fun w ρ' => g (frz w) ρ' k.nx
theorem ds_asg {tg e : Expr} {te : TE} {re : RE} {g : TG} {rg : D → EN → (EN → Prop) → Prop} (he : DE X B e te re) (hg : DG X B tg g rg) (hs : swapsWithSole [tg] e pos.line X.env = pure false := by rfl) (hw : swappedStores [tg] e X.env = pure none := by rfl)
    (h1 : (assignEach [tg] X.env).map (·.2) = [assign tg X.env] := by rfl) : DS X B (.Assign [tg] e pos) (tAsg te g) (rAsg re rg) :=
  ⟨ps_asg he.pe hg.pg hs hw h1, fun τ D k E σ H ρ R q => he.sim σ H ρ τ _ _ R q fun w ρ' v H' q' ⟨S, ow, R'⟩ => by
    obtain ⟨S', ow', R2, hv, _⟩ := R'.frzTop
    exact hg.sim v (frz w) σ H' ρ' τ _ _ ⟨S', ow', R2.push hv⟩ q' fun ρ2 σ2 H2 q2 R2 => E.nx _ _ _ R2 q2⟩
end
/-! ### what is walked -/
structure WkD (K : PySem.W.Frag) (B : Bs) (J : It) (ds : List D) (τ : List (V × W)) : Prop where
  go : ∀ (i : Nat) (σ : L2.St) (H : Hp) (ρ : EN) (up : List (V × W)), i < ds.length → Rel K B σ H ρ (up ++ τ) → J.go i H
  stop : ∀ (σ : L2.St) (H : Hp) (ρ : EN) (up : List (V × W)), Rel K B σ H ρ (up ++ τ) → J.stop ds.length H
  yld : ∀ (i : Nat) (d : D) (σ : L2.St) (H : Hp) (ρ : EN) (up : List (V × W)) (x : V) (H' : Hp), ds[i]? = some d → Rel K B σ H ρ (up ++ τ) → J.yld i H x H' → Rel K B σ H' ρ ((x, .v d) :: (up ++ τ))
structure DI (X : Cx) (B : Bs) (tg it : Expr) (wi : TI) (r : RA) : Prop where
  pi : PI X tg it wi
  sim : ∀ (σ : L2.St) (H : Hp) (ρ : EN) (τ : List (V × W)) (R : It → Hp → Prop) (k : List D → EN → Prop), Rel X.K B σ H ρ τ → r ρ k →
    (∀ ds ρ' J H' hs, k ds ρ' → ds.length ≤ sizeLine → WkD X.K B J ds (hs ++ τ) → Rel X.K B σ H' ρ' (hs ++ τ) → R J H') → wi σ H R
/-- the items of a list or a tuple -/
def itS : W → Option (List D)
  | .v (.lst xs) => some xs
  | .v (.fz xs) => some xs
  | .v (.tup xs) => some xs
  | .o xs => some xs
  | _ => none
theorem Rw.seq {K : PySem.W.Frag} {S : Addr → Prop} {z : Option (Addr × Addr)} {H : Hp} {ow : Addr → Option Ow} {o : Ow} {x : V} {w : W} {ds : List D} (h : Rw K S z H ow o x w) (e : itS w = some ds) : ∃ a vs, x = .ref a ∧ (SqL K H a vs ∨ SqT K H a vs) ∧ RpB K S z H vs ds := by
  cases w with
  | o xs =>
    obtain ⟨a, vs, h1, h2, h3⟩ := h.lst (ds := ds) e
    exact ⟨a, vs, h1, .inl h2, h3⟩
  | od xs => cases e
  | v d =>
    cases d with
    | tup xs =>
      cases e
      obtain ⟨a, vs, h1, h2, h3⟩ := h.tup
      exact ⟨a, vs, h1, .inr h2, h3⟩
    | lst xs =>
      obtain ⟨a, vs, h1, h2, h3⟩ := h.lst (ds := ds) e
      exact ⟨a, vs, h1, .inl h2, h3⟩
    | fz xs =>
      obtain ⟨a, vs, h1, h2, h3⟩ := h.lst (ds := ds) e
      exact ⟨a, vs, h1, .inl h2, h3⟩
    | _ => cases e
section
variable {X : Cx} {B : Bs} {pos : Pos} {tg e : Expr} {te : TE} {re : RE}
/-- a list that stands is asked for its iterator -/
theorem li_start {pins : List (Addr × Obj)} {sh : Shared} {σ : L2.St} {H : Hp} {ad : Addr} {vs : List V} {R : It → Hp → Prop} (J : Inv X pins σ H sh) (hs : SqL X.K H ad vs) (r : R (Itl X.K ad) H) :
    wpAny (model X.prog X.w) X.A (pyIter (.ref ad)) (PIE X pins σ tg R) X.xe sh := by
  obtain ⟨us, _, pl, _⟩ := J.list hs
  have fresh := Nat.le_refl sh.heap.objs.size
  refine wpAny_pyIter_list pl.isList
    ⟨sh.heap.objs.size, [sh.heap.objs.size], _, _, H, rfl, ?_, turn_list ad _, ⟨_, Heap.get?_push_size _ rfl, rfl, rfl⟩, ?_, r⟩
  · exact J.kept (t' := sh.toks) (fun b o q => Heap.get?_push_of_some _ q)
  · intro c hc
    rw [List.mem_singleton] at hc
    exact hc ▸ J.fpOk fresh (J.hok.fresh fresh)
/-- the same of a tuple -/
theorem ti_start {pins : List (Addr × Obj)} {sh : Shared} {σ : L2.St} {H : Hp} {ad : Addr} {vs : List V} {R : It → Hp → Prop} (J : Inv X pins σ H sh) (hs : SqT X.K H ad vs) (r : R (Itt X.K ad) H) :
    wpAny (model X.prog X.w) X.A (pyIter (.ref ad)) (PIE X pins σ tg R) X.xe sh := by
  obtain ⟨us, _, pt, _⟩ := J.tuple hs
  have fresh := Nat.le_refl sh.heap.objs.size
  refine wpAny_pyIter_tuple (items := us.toArray) pt
    ⟨sh.heap.objs.size, [sh.heap.objs.size], _, _, H, rfl, ?_, turn_tuple ad _, ⟨_, Heap.get?_push_size _ rfl, rfl, rfl⟩, ?_, r⟩
  · exact J.kept (t' := sh.toks) (fun b o q => Heap.get?_push_of_some _ q)
  · intro c hc
    rw [List.mem_singleton] at hc
    exact hc ▸ J.fpOk fresh (J.hok.fresh fresh)
def iSq (K : PySem.W.Frag) (tl : TE) : TI := fun σ H R => tl σ H fun x H1 => ∃ a, x = .ref a ∧ (((∃ vs, SqL K H1 a vs) ∧ R (Itl K a) H1) ∨ ((∃ vs, SqT K H1 a vs) ∧ R (Itt K a) H1))
theorem pi_sq (h : PE X e te) : PI X tg e (iSq X.K te) :=
  ⟨fun pins sh σ H R J q => thn (h.run pins sh σ H _ J q) fun u s2 ⟨y, H2, J2, r2, ad, e2, q2⟩ => by
    subst e2
    cases r2
    rcases q2 with ⟨⟨vs, hs⟩, r⟩ | ⟨⟨vs, hs⟩, r⟩
    · exact li_start J2 hs r
    · exact ti_start J2 hs r⟩
def rSeqIt (r : RE) : RA := fun ρ k => r ρ fun w ρ' => ∃ ds, itS w = some ds ∧ k ds ρ'
theorem it_or {w : W} {ds : List D} (e : itS w = some ds) : itL w = some ds ∨ w = .v (.tup ds) := by
  cases w with
  | o xs => exact .inl e
  | od xs => cases e
  | v d =>
    cases d with
    | tup xs => cases e; exact .inr rfl
    | lst xs => exact .inl e
    | fz xs => exact .inl e
    | _ => cases e
theorem walk_top {K : PySem.W.Frag} {a : Addr} {w : W} {ds : List D} {τ : List (V × W)} (e : itL w = some ds) : WkD K B (Itl K a) ds ((.ref a, w) :: τ) where
  go := fun i σ H ρ up hi ⟨S, ow, R⟩ => by
    obtain ⟨b, vs, e1, h1, l, r⟩ := (Tok.tail (hs := up) R.tm).1.lst e
    cases e1
    have hv : i < vs.length := by rw [r.length]; exact hi
    exact ⟨vs, vs[i], h1, by simp [hv]⟩
  stop := fun σ H ρ up ⟨S, ow, R⟩ => by
    obtain ⟨b, vs, e1, h1, l, r⟩ := (Tok.tail (hs := up) R.tm).1.lst e
    cases e1
    exact ⟨vs, h1, by rw [r.length]; exact Nat.le_refl _⟩
  yld := fun i d σ H ρ up x H' hd ⟨S, ow, R⟩ y => by
    obtain ⟨b, vs, e1, h1, l, r⟩ := (Tok.tail (hs := up) R.tm).1.lst e
    cases e1
    obtain ⟨rfl, y⟩ := y
    obtain ⟨v, h2, h3⟩ := r.get hd
    have := y vs h1
    rw [h2] at this
    cases this
    exact ⟨S, ow, R.push h3⟩
theorem walk_topT {K : PySem.W.Frag} {a : Addr} {ds : List D} {τ : List (V × W)} : WkD K B (Itt K a) ds ((.ref a, .v (.tup ds)) :: τ) where
  go := fun i σ H ρ up hi ⟨S, ow, R⟩ => by
    obtain ⟨b, vs, e1, h1, l, r⟩ := (Tok.tail (hs := up) R.tm).1.tup
    cases e1
    have hv : i < vs.length := by rw [r.length]; exact hi
    exact ⟨vs, vs[i], h1, by simp [hv]⟩
  stop := fun σ H ρ up ⟨S, ow, R⟩ => by
    obtain ⟨b, vs, e1, h1, l, r⟩ := (Tok.tail (hs := up) R.tm).1.tup
    cases e1
    exact ⟨vs, h1, by rw [r.length]; exact Nat.le_refl _⟩
  yld := fun i d σ H ρ up x H' hd ⟨S, ow, R⟩ y => by
    obtain ⟨b, vs, e1, h1, l, r⟩ := (Tok.tail (hs := up) R.tm).1.tup
    cases e1
    obtain ⟨rfl, y⟩ := y
    obtain ⟨v, h2, h3⟩ := r.get hd
    have := y vs h1
    rw [h2] at this
    cases this
    exact ⟨S, ow, R.push h3⟩
theorem di_seq (h : DE X B e te re) : DI X B tg e (iSq X.K te) (rSeqIt re) :=
  ⟨pi_sq h.pe, fun σ H ρ τ R k R0 q f => h.sim σ H ρ τ _ _ R0 q fun w ρ' v H' ⟨ds, e, q'⟩ R1 => by
    obtain ⟨S, ow, R2⟩ := id R1
    obtain ⟨a, vs, rfl, h1, l, r⟩ := R2.top.seq e
    have hl : ds.length ≤ sizeLine := by rw [← r.length]; exact l
    rcases it_or e with e1 | rfl
    · obtain ⟨b, us, e2, h2, _⟩ := R2.top.lst e1
      cases e2
      exact ⟨a, rfl, .inl ⟨⟨us, h2⟩, f ds ρ' _ H' [(.ref a, w)] q' hl (walk_top e1) R1⟩⟩
    · obtain ⟨b, us, e2, h2, _⟩ := R2.top.tup
      cases e2
      exact ⟨a, rfl, .inr ⟨⟨us, h2⟩, f ds ρ' _ H' [(.ref a, .v (.tup ds))] q' hl walk_topT R1⟩⟩⟩
/-- range(n), range(a, b) -/
def rgD (lo : Int) (n : Nat) : List D := (List.range n).map fun i => .int (lo + (i : Nat))
theorem rgD_len (lo : Int) (n : Nat) : (rgD lo n).length = n := by unfold rgD; simp
theorem rgD_get {lo : Int} {n i : Nat} {d : D} (h : (rgD lo n)[i]? = some d) : i < n ∧ d = .int (lo + i) := by
  unfold rgD at h
  rw [List.getElem?_map] at h
  by_cases hi : i < n
  · rw [List.getElem?_range hi] at h
    exact ⟨hi, (Option.some.inj h).symm⟩
  · rw [List.getElem?_eq_none (by simpa using hi)] at h; cases h
theorem walk_rg {K : PySem.W.Frag} {lo : Int} {n : Nat} {τ : List (V × W)} : WkD K B (Itr lo n) (rgD lo n) τ where
  go := fun i σ H ρ up hi _ => by rw [rgD_len] at hi; exact hi
  stop := fun σ H ρ up _ => by rw [rgD_len]; exact Nat.le_refl _
  yld := fun i d σ H ρ up x H' hd ⟨S, ow, R⟩ y => by
    obtain ⟨rfl, rfl⟩ := y
    obtain ⟨_, rfl⟩ := rgD_get hd
    exact ⟨S, ow, R.push (.int _)⟩
def rRg1 (rs : RA) : RA := fun ρ k => rs ρ fun ds ρ' => match ds with
  | [.int j] => j ≤ 16777216 ∧ k (rgD 0 j.toNat) ρ'
  | _ => False
def rRg2 (rs : RA) : RA := fun ρ k => rs ρ fun ds ρ' => match ds with
  | [.int i, .int j] => -16777216 ≤ i ∧ j ≤ 16777216 ∧ j - i ≤ 16777216 ∧ k (rgD i (j - i).toNat) ρ'
  | _ => False
theorem RpA.ints1 {K : PySem.W.Frag} {S : Addr → Prop} {z : Option (Addr × Addr)} {H : Hp} {vs : List V} {i : Int} (h : RpA K S z H vs [.int i]) : vs = [.int i] := by
  cases h with
  | cons h1 h2 => cases h1; cases h2; rfl
theorem RpA.ints2 {K : PySem.W.Frag} {S : Addr → Prop} {z : Option (Addr × Addr)} {H : Hp} {vs : List V} {i j : Int} (h : RpA K S z H vs [.int i, .int j]) : vs = [.int i, .int j] := by
  cases h with
  | cons h1 h2 => rw [h2.ints1]; cases h1; rfl
theorem line_eq : sizeLine = 16777216 := sizeLine_eq
variable {a b : Expr} {t : TA} {rs : RA} {p : Pos}
/-- range's limits are wide: a negative end is taken as none -/
def iR1 (ta : TA) : TI := fun σ H R => ta σ H fun vs H1 => ∃ j : Int, vs = [.int j] ∧ -(2 ^ 62) ≤ j ∧ j < 2 ^ 62 ∧ R (Itr 0 j.toNat) H1
theorem di_rg1 (ha : DA X B [a] t rs) (hm : X.mg "range" = none) (hg : Gl X "range" := by rfl) (hs : starEach [a] X.env = [(false, eval a X.env)] := by rfl) : DI X B tg (.Call (.Name "range" p) [a] [] pos) (iRng1 t) (fun ρ k => rs ρ fun ds ρ' => match ds with
  | [.int j] => -(2 ^ 62) ≤ j ∧ j ≤ 16777216 ∧ k (rgD 0 j.toNat) ρ'
  | _ => False) :=
  ⟨pi_range1 hg hm ha.pa hs, fun σ H ρ τ R k R0 q f => ha.sim σ H ρ τ _ _ R0 q fun ds ρ' vs H' S ow q' R1 r => by
    split at q'
    · rename_i j
      obtain ⟨l, u, q'⟩ := q'
      exact ⟨j, r.ints1, l, by omega, f _ ρ' _ H' [] q' (by rw [rgD_len, line_eq]; omega) walk_rg ⟨S, ow, R1⟩⟩
    · exact q'.elim⟩
theorem di_rg2 (ha : DA X B [a, b] t rs) (hm : X.mg "range" = none) (hg : Gl X "range" := by rfl) (hs : starEach [a, b] X.env = [(false, eval a X.env), (false, eval b X.env)] := by rfl)
    (hs2 : starEach [b] X.env = [(false, eval b X.env)] := by rfl) : DI X B tg (.Call (.Name "range" p) [a, b] [] pos) (iRng2 t) (fun ρ k => rs ρ fun ds ρ' => match ds with
  | [.int i, .int j] => -(2 ^ 62) ≤ i ∧ i < 2 ^ 62 ∧ -(2 ^ 62) ≤ j ∧ j < 2 ^ 62 ∧ j - i ≤ 16777216 ∧ k (rgD i (j - i).toNat) ρ'
  | _ => False) :=
  ⟨pi_range2 hg hm ha.pa hs hs2, fun σ H ρ τ R k R0 q f => ha.sim σ H ρ τ _ _ R0 q fun ds ρ' vs H' S ow q' R1 r => by
    split at q'
    · rename_i i j
      obtain ⟨l1, u1, l2, u2, h, q'⟩ := q'
      exact ⟨i, j, r.ints2, ⟨l1, u1, l2, u2⟩, f _ ρ' _ H' [] q' (by rw [rgD_len, line_eq]; omega) walk_rg ⟨S, ow, R1⟩⟩
    · exact q'.elim⟩
end
/-! ### for -/
/-- the turns, one after another -/
def forD (g : D → EN → (EN → Prop) → Prop) (b : RS) (k : KD) : List D → EN → Prop
  | [], ρ => k.nx ρ
  | d :: ds, ρ => g d ρ fun ρ1 => b { k with nx := forD g b k ds, ct := forD g b k ds, bk := k.nx } ρ1
def rFor (ri : RA) (g : D → EN → (EN → Prop) → Prop) (b : RS) : RS := fun k ρ => ri ρ fun ds ρ1 => forD g b k ds ρ1
theorem get_drop {α : Type} {xs : List α} {i : Nat} {x : α} (h : xs[i]? = some x) : xs.drop i = x :: xs.drop (i + 1) := by
  obtain ⟨hi, e⟩ := List.getElem?_eq_some_iff.mp h
  rw [← e]
  exact List.drop_eq_getElem_cons hi
section
variable {X : Cx} {B : Bs} {pos : Pos} {tg it : Expr} {body : List Stmt} {wi : TI} {g : TG} {ts : TS} {ri : RA} {rg : D → EN → (EN → Prop) → Prop} {rb : RS}
theorem ds_for (hp : PassesOwn (model X.prog X.w) X.A X.env X.xe) (hc : X.calm = true) (hi : DI X B tg it wi ri) (hg : DG X B tg g rg) (hb : DSs X B body ts rb) (hs : ∀ x, foldedSetIterable it X.env x = pure x := by intro _; rfl) : DS X B (.For tg it body [] pos) (tFor wi g ts) (rFor ri rg rb) :=
  ⟨ps_for hp hc hi.pi hg.pg hb.ps hs, fun τ D k E σ H ρ R q => hi.sim σ H ρ τ _ _ R q fun ds ρ1 J H1 hs q1 hl wk R1 => by
    have E' := E.more hs
    refine ⟨fun i m σ H => i + m = ds.length ∧ ∃ ρ, Rel X.K B σ H ρ (hs ++ τ) ∧ forD rg rb k (ds.drop i) ρ, ⟨ds.length, by omega, ρ1, R1, q1⟩, ?_⟩
    rintro i m σ H ⟨him, ρ, R, q⟩
    by_cases hi : i < ds.length
    · have hd : ds[i]? = some ds[i] := by simp [hi]
      rw [get_drop hd] at q
      refine .inr ⟨wk.go i σ H ρ [] hi R, fun σ' H' => ∃ ρ', Rel X.K B σ' H' ρ' (hs ++ τ) ∧ forD rg rb k (ds.drop (i + 1)) ρ', fun σ' H' h => ⟨m - 1, by omega, by omega, h⟩, fun x H' y => ?_⟩
      have R2 := wk.yld i ds[i] σ H ρ [] x H' hd R y
      refine hg.sim x ds[i] σ H' ρ (hs ++ τ) _ _ R2 q fun ρ' σ' H2 q2 R3 => ?_
      exact hb.sim (hs ++ τ) { D with nx := _, ct := _, bk := D.nx } { k with nx := _, ct := _, bk := k.nx } ⟨fun σ H ρ R q => ⟨ρ, R, q⟩, fun σ H ρ R q => E'.nx _ _ _ R q, fun σ H ρ R q => ⟨ρ, R, q⟩, E'.rt⟩ σ' H2 ρ' R3 q2
    · have e : i = ds.length := by omega
      subst e
      rw [List.drop_length] at q
      exact .inl ⟨wk.stop σ H ρ [] R, E'.nx _ _ _ R q⟩⟩
end
/-! ### comprehensions -/
structure DTs (X : Cx) (B : Bs) (ifs : List Expr) (t : TT) (r : RT) : Prop where
  pts : PTs X ifs t
  sim : ∀ (σ : L2.St) (H : Hp) (ρ : EN) (τ : List (V × W)) (Q : Bool → Hp → Prop) (k : Bool → EN → Prop), Rel X.K B σ H ρ τ → r ρ k → (∀ b ρ' H', k b ρ' → Rel X.K B σ H' ρ' τ → Q b H') → t σ H Q
def rYes : RT := fun ρ k => k true ρ
def lcD (g : D → EN → (EN → Prop) → Prop) (t : RT) (r : RE) (vs : List Nat) (k : List D → EN → Prop) : List D → List D → EN → Prop
  | [], acc, ρ => k acc ρ
  | d :: ds, acc, ρ => g d ρ fun ρ1 => t ρ1 fun b ρ2 => (b = true → r ρ2 fun w ρ3 => lcD g t r vs k ds (acc ++ [frz w]) (wipeE ρ3 vs)) ∧ (b = false → lcD g t r vs k ds acc (wipeE ρ2 vs))
def rLc (ri : RA) (g : D → EN → (EN → Prop) → Prop) (t : RT) (r : RE) (vs : List Nat) : RE := fun ρ k => ri ρ fun ds ρ1 => lcD g t r vs (fun acc ρ2 => k (.o acc) ρ2) ds [] (wipeE ρ1 vs)
section
variable {X : Cx} {B : Bs} {pos : Pos}
theorem dts_nil : DTs X B [] tYes rYes := ⟨pts_nil, fun σ H ρ τ Q k R q f => f _ _ _ q R⟩
theorem dts_one {c : Expr} {t : TT} {r : RT} (h : DT X B c t r) : DTs X B [c] t r := ⟨pts_one h.pt, h.sim⟩
theorem Rel.wipe {K : PySem.W.Frag} {σ σ' : L2.St} {H : Hp} {ρ : EN} {τ : List (V × W)} {vs : List Nat} (R : Rel K B σ H ρ τ) (h : L2.wipe σ' vs = L2.wipe σ vs) : Rel K B σ' H (wipeE ρ vs) τ := by
  obtain ⟨S, ow, R⟩ := R
  have gw : ∀ (is : List Nat) (i : Nat) (w : W), gt (wipeE ρ is) i = some w → gt ρ i = some w ∧ i ∉ is := by
    intro is
    induction is with
    | nil => intro i w e; exact ⟨e, by simp⟩
    | cons j js ih =>
      intro i w e
      unfold wipeE at e
      rw [gt_st] at e
      split at e
      · cases e
      · rename_i c
        obtain ⟨h1, h2⟩ := ih i w e
        refine ⟨h1, ?_⟩
        simp only [List.mem_cons, not_or]
        refine ⟨fun z => c ⟨z, ?_⟩, h2⟩
        rw [wipeE_length]
        exact z ▸ gt_lt h1
  exact ⟨S, ow, { R with
    len := by
      rw [wipeE_length, ← R.len]
      have := congrArg List.length h
      rw [wipe_length, wipe_length] at this
      exact this
    sl := fun i w e => by
      obtain ⟨h1, h2⟩ := gw vs i w e
      obtain ⟨v, q1, q2⟩ := R.sl i w h1
      refine ⟨v, ?_, q2⟩
      have z : (L2.wipe σ vs)[i]? = some (some v) := by rw [wipe_out h2]; exact q1
      rw [← h] at z
      exact (wipe_some z).1 }⟩
variable {elt tg iter : Expr} {ifs : List Expr} {scope : Scope} {own : List (Str × Nat)} {wi : TI} {g : TG} {tt : TT} {te : TE} {ri : RA} {rg : D → EN → (EN → Prop) → Prop} {rt : RT} {re : RE}
/-- a target that stores into these slots alone -/
def Keeps (g : TG) (vs : List Nat) : Prop := ∀ (v : V) (σ s : L2.St) (H : Hp) (Q : L2.St → Hp → Prop), L2.wipe s vs = L2.wipe σ vs → g v s H (fun σ2 H2 => L2.wipe σ2 vs = L2.wipe σ vs → Q σ2 H2) → g v s H fun σ2 H2 => L2.wipe σ2 vs = L2.wipe σ vs ∧ Q σ2 H2
theorem Rel.unwipe {K : PySem.W.Frag} {σ : L2.St} {H : Hp} {ρ : EN} {τ : List (V × W)} {vs : List Nat} (R : Rel K B (L2.wipe σ vs) H ρ τ) : Rel K B σ H ρ τ := by
  obtain ⟨S, ow, R⟩ := R
  exact ⟨S, ow, { R with
    len := by rw [← R.len, wipe_length]
    sl := fun i w e => by
      obtain ⟨v, q1, q2⟩ := R.sl i w e
      exact ⟨v, (wipe_some q1).1, q2⟩ }⟩
theorem lc_sim {Kf : PySem.W.Frag} {vs : List Nat}
    (hi : ∀ (σ : L2.St) (H : Hp) (ρ : EN) (τ : List (V × W)) (R : It → Hp → Prop) (k : List D → EN → Prop), Rel Kf B σ H ρ τ → ri ρ k → (∀ ds ρ' J H' hs, k ds ρ' → ds.length ≤ sizeLine → WkD Kf B J ds (hs ++ τ) → Rel Kf B σ H' ρ' (hs ++ τ) → R J H') → wi σ H R)
    (hg : ∀ (v : V) (d : D) (σ : L2.St) (H : Hp) (ρ : EN) (τ : List (V × W)) (Q : L2.St → Hp → Prop) (k : EN → Prop), Rel Kf B σ H ρ ((v, .v d) :: τ) → rg d ρ k → (∀ ρ' σ' H', k ρ' → Rel Kf B σ' H' ρ' τ → Q σ' H') → g v σ H Q)
    (hw : Keeps g vs)
    (ht : ∀ (σ : L2.St) (H : Hp) (ρ : EN) (τ : List (V × W)) (Q : Bool → Hp → Prop) (k : Bool → EN → Prop), Rel Kf B σ H ρ τ → rt ρ k → (∀ b ρ' H', k b ρ' → Rel Kf B σ H' ρ' τ → Q b H') → tt σ H Q)
    (he : ∀ (σ : L2.St) (H : Hp) (ρ : EN) (τ : List (V × W)) (Q : VK) (k : W → EN → Prop), Rel Kf B σ H ρ τ → re ρ k → (∀ w ρ' v H', k w ρ' → Rel Kf B σ H' ρ' ((v, w) :: τ) → Q v H') → te σ H Q) :
    ∀ (σ : L2.St) (H : Hp) (ρ : EN) (τ : List (V × W)) (Q : VK) (k : W → EN → Prop), Rel Kf B σ H ρ τ → rLc ri rg rt re vs ρ k → (∀ w ρ' v H', k w ρ' → Rel Kf B σ H' ρ' ((v, w) :: τ) → Q v H') → tLc wi g tt te vs σ H Q := by
  intro σ H ρ τ Q k R q f
  refine hi σ H ρ τ _ _ R q fun ds ρ1 J H1 hs q1 hl wk R1 => ?_
  intro L hL
  -- the new list lies above what is walked
  have w0 : L2.wipe (L2.wipe σ vs) vs = L2.wipe σ vs := by
    have key : ∀ (is : List Nat) (s : L2.St), (∀ i ∈ is, ∀ x, s[i]? = some x → x = none) → L2.wipe s is = s := by
      intro is
      induction is with
      | nil => intro s _; rfl
      | cons j js ih =>
        intro s h
        show (L2.wipe s js).set j none = s
        rw [ih s fun i hi => h i (List.mem_cons_of_mem _ hi)]
        apply List.ext_getElem?
        intro n
        by_cases hn : j = n
        · subst hn
          by_cases hl : j < s.length
          · rw [List.getElem?_set_self hl]
            have e : s[j]? = some s[j] := by simp [hl]
            rw [e, h j (List.mem_cons_self ..) _ e]
          · rw [List.getElem?_eq_none (by simpa using hl), List.getElem?_eq_none (by simpa using hl)]
        · rw [List.getElem?_set_ne hn]
    refine key vs _ fun i hi x e => ?_
    cases x with
    | none => rfl
    | some v => exact absurd hi (wipe_some e).2
  have start : Rel Kf B (L2.wipe σ vs) (upd H1 L (.lst [])) (wipeE ρ1 vs) ((.ref L, .o []) :: (hs ++ τ)) := by
    obtain ⟨S, ow, R2⟩ := Rel.wipe (vs := vs) R1 w0
    exact ⟨S, _, R2.newLst hL ⟨Nat.zero_le _, .nil⟩⟩
  refine ⟨fun i m H => i + m = ds.length ∧ ∃ acc ρ, acc.length ≤ i ∧ Rel Kf B (L2.wipe σ vs) H ρ ((.ref L, .o acc) :: (hs ++ τ)) ∧ lcD rg rt re vs (fun acc ρ2 => k (.o acc) ρ2) (ds.drop i) acc ρ, ⟨ds.length, by omega, [], _, Nat.zero_le _, start, q1⟩, ?_⟩
  rintro i m H ⟨him, acc, ρ, ha, R, q⟩
  by_cases hi : i < ds.length
  · have hd : ds[i]? = some ds[i] := by simp [hi]
    rw [get_drop hd] at q
    refine .inr ⟨wk.go i _ H ρ [(.ref L, .o acc)] hi R, fun H' => ∃ acc' ρ', acc'.length ≤ i + 1 ∧ Rel Kf B (L2.wipe σ vs) H' ρ' ((.ref L, .o acc') :: (hs ++ τ)) ∧ lcD rg rt re vs (fun acc ρ2 => k (.o acc) ρ2) (ds.drop (i + 1)) acc' ρ',
      fun H' h => ⟨m - 1, by omega, by omega, h⟩, fun x H' y => ?_⟩
    have R2 := wk.yld i ds[i] _ H ρ [(.ref L, .o acc)] x H' hd R y
    have R2 : Rel Kf B (L2.wipe σ vs) H' ρ ((x, .v ds[i]) :: ((.ref L, .o acc) :: (hs ++ τ))) := R2
    -- the target stores into the block's own slots alone
    refine hw x σ _ H' _ w0 (hg x ds[i] _ H' ρ ((.ref L, .o acc) :: (hs ++ τ)) _ _ R2 q fun ρ2 σ2 H2 q2 R3 hσ => ?_)
    refine ht σ2 H2 ρ2 _ _ _ R3 q2 fun b ρ3 H3 q3 R4 => ?_
    have wσ : L2.wipe (L2.wipe σ vs) vs = L2.wipe σ2 vs := by rw [w0, hσ]
    cases b with
    | true =>
      rw [if_pos rfl]
      refine he σ2 H3 ρ3 _ _ _ R4 (q3.1 rfl) fun w ρ4 v H4 q4 R5 => ?_
      obtain ⟨S, ow, R6⟩ := R5
      obtain ⟨S', ow', R7, hv, _⟩ := R6.frzTop
      obtain ⟨a, us, e, ho, hh, l, r⟩ := R7.top
      cases e
      have la : us.length < sizeLine := by
        rw [r.length]
        exact Nat.lt_of_le_of_lt ha (Nat.lt_of_lt_of_le hi hl)
      refine ⟨us, hh, la, acc ++ [frz w], _, by simp; omega, ?_, q4⟩
      have R8 := R7.writeTop (vs' := us ++ [v]) (ds' := acc ++ [frz w]) hh ⟨by simp; omega, r.append (.cons hv .nil)⟩
      exact Rel.wipe ⟨S', ow', R8⟩ wσ
    | false =>
      rw [if_neg Bool.false_ne_true]
      exact ⟨acc, _, by omega, Rel.wipe R4 wσ, q3.2 rfl⟩
  · have e : i = ds.length := by omega
    subst e
    rw [List.drop_length] at q
    have R' : Rel Kf B (L2.wipe σ vs) H ρ ((.ref L, .o acc) :: τ) := R.dropMid
    exact .inl ⟨wk.stop _ H ρ [(.ref L, .o acc)] R, f _ _ _ _ q R'.unwipe⟩
theorem keeps_name {i : Nat} {vs : List Nat} (h : i ∈ vs) : Keeps (gName i) vs := fun v σ s H Q e q => by
  have key : ∀ (is : List Nat) (t : L2.St), i ∈ is → L2.wipe (t.set i (some v)) is = L2.wipe t is := by
    intro is
    induction is with
    | nil => intro t h; cases h
    | cons j js ih =>
      intro t h
      show (L2.wipe (t.set i (some v)) js).set j none = (L2.wipe t js).set j none
      by_cases hj : i ∈ js
      · rw [ih t hj]
      · have e : i = j := by
          rcases List.mem_cons.mp h with h | h
          · exact h
          · exact absurd h hj
        subst e
        have out : ∀ (ks : List Nat) (t : L2.St), i ∉ ks → L2.wipe (t.set i (some v)) ks = (L2.wipe t ks).set i (some v) := by
          intro ks
          induction ks with
          | nil => intro t _; rfl
          | cons k ks ih2 =>
            intro t hk
            simp only [List.mem_cons, not_or] at hk
            show (L2.wipe (t.set i (some v)) ks).set k none = ((L2.wipe t ks).set k none).set i (some v)
            rw [ih2 t hk.2, List.set_comm _ _ hk.1]
        rw [out js t hj, List.set_set]
  have e2 : L2.wipe (s.set i (some v)) vs = L2.wipe σ vs := (key vs s h).trans e
  exact ⟨e2, q e2⟩
def KeepsG (g : TGs) (vs : List Nat) : Prop := ∀ (us : List V) (σ s : L2.St) (H : Hp) (Q : L2.St → Hp → Prop), L2.wipe s vs = L2.wipe σ vs → g us s H (fun σ2 H2 => L2.wipe σ2 vs = L2.wipe σ vs → Q σ2 H2) → g us s H fun σ2 H2 => L2.wipe σ2 vs = L2.wipe σ vs ∧ Q σ2 H2
def MonoG (g : TG) : Prop := ∀ (v : V) (σ : L2.St) (H : Hp) (Q Q' : L2.St → Hp → Prop), (∀ s h, Q s h → Q' s h) → g v σ H Q → g v σ H Q'
theorem mono_name {i : Nat} : MonoG (gName i) := fun _ _ _ _ _ f h => f _ _ h
theorem keeps_nil {vs : List Nat} : KeepsG gNil vs := fun _ _ _ _ _ e h => ⟨h.1, e, h.2 e⟩
theorem keeps_cons {g : TG} {gs : TGs} {vs : List Nat} (h1 : Keeps g vs) (m : MonoG g) (h2 : KeepsG gs vs) : KeepsG (gCons g gs) vs := fun us σ s H Q e ⟨v, r, eu, h⟩ =>
  ⟨v, r, eu, m v s H _ _ (fun _ _ z => z.2) (h1 v σ s H _ e (m v s H _ _ (fun s2 h2' z e2 => h2 r σ s2 h2' Q e2 z) h))⟩
theorem keeps_tup {K : PySem.W.Frag} {n : Nat} {gs : TGs} {vs : List Nat} (h : KeepsG gs vs) : Keeps (gTup K n gs) vs := fun v σ s H Q e ⟨a, xs, e1, e2, e3, q⟩ => ⟨a, xs, e1, e2, e3, h xs σ s H Q e q⟩
theorem mono_tup {K : PySem.W.Frag} {n : Nat} {gs : TGs} (h : ∀ (us : List V) (σ : L2.St) (H : Hp) (Q Q' : L2.St → Hp → Prop), (∀ s h, Q s h → Q' s h) → gs us σ H Q → gs us σ H Q') : MonoG (gTup K n gs) := fun v σ H Q Q' f ⟨a, xs, e1, e2, e3, q⟩ => ⟨a, xs, e1, e2, e3, h xs σ H Q Q' f q⟩
theorem monoG_nil : ∀ (us : List V) (σ : L2.St) (H : Hp) (Q Q' : L2.St → Hp → Prop), (∀ s h, Q s h → Q' s h) → gNil us σ H Q → gNil us σ H Q' := fun _ _ _ _ _ f h => ⟨h.1, f _ _ h.2⟩
theorem monoG_cons {g : TG} {gs : TGs} (m : MonoG g) (h : ∀ (us : List V) (σ : L2.St) (H : Hp) (Q Q' : L2.St → Hp → Prop), (∀ s h, Q s h → Q' s h) → gs us σ H Q → gs us σ H Q') :
    ∀ (us : List V) (σ : L2.St) (H : Hp) (Q Q' : L2.St → Hp → Prop), (∀ s h, Q s h → Q' s h) → gCons g gs us σ H Q → gCons g gs us σ H Q' := fun us σ H Q Q' f ⟨v, r, e, q⟩ =>
  ⟨v, r, e, m v σ H _ _ (fun s h' z => h r s h' Q Q' f z) q⟩
variable {elt tg iter : Expr} {ifs : List Expr} {scope : Scope} {own : List (Str × Nat)} {wi : TI} {g : TG} {tt : TT} {te : TE} {ri : RA} {rg : D → EN → (EN → Prop) → Prop} {rt : RT} {re : RE}
/-- [elt for tg in iter if ..] -/
theorem de_lc (hc : X.calm = true) (hN : X.N.Nodup) (hi : DI X B tg iter wi ri) (ok : BlkOk X.N X.env.scope scope own)
    (hg : ∀ (s : Shared) (H : Hp) (C : Addr) (cl : List (Str × Addr)) (fp : List Addr), DG (X.blk s H scope (compEnvC scope cl C X.env) fp) B tg g rg) (hw : Keeps g (own.map (·.2)))
    (ht : ∀ (s : Shared) (H : Hp) (C : Addr) (cl : List (Str × Addr)) (fp : List Addr), DTs (X.blk s H scope (compEnvC scope cl C X.env) fp) B ifs tt rt)
    (he : ∀ (s : Shared) (H : Hp) (C : Addr) (cl : List (Str × Addr)) (fp : List Addr), DE (X.blk s H scope (compEnvC scope cl C X.env) fp) B elt te re) (hs : ∀ x, foldedSetIterable iter X.env x = pure x := by intro _; rfl) :
    DE X B (.ListComp elt [⟨tg, iter, ifs, 0⟩] scope pos) (tLc wi g tt te (own.map (·.2))) (rLc ri rg rt re (own.map (·.2))) :=
  ⟨pe_lc hc hN hi.pi ok (fun s H C cl fp => (hg s H C cl fp).pg) (fun s H C cl fp => (ht s H C cl fp).pts) (fun s H C cl fp => (he s H C cl fp).pe) hs,
    lc_sim (Kf := X.K) hi.sim (hg X.s_0 X.H_0 0 [] []).sim hw (ht X.s_0 X.H_0 0 [] []).sim (he X.s_0 X.H_0 0 [] []).sim⟩
/-- name = [..] -/
theorem ds_setLc {i : Nat} {y : Str} {py : Pos} {spos : Pos} (hc : X.calm = true) (hN : X.N.Nodup) (hy : X.N[i]? = some y) (hyl : X.env.scope.names.lookup y = some .local)
    (hsw : swapsWith (.ListComp elt [⟨tg, iter, ifs, 0⟩] scope pos) (some (.Name y py)) spos.line X.env = pure true) (hi : DI X B tg iter wi ri) (ok : BlkOk X.N X.env.scope scope own)
    (hg : ∀ (s : Shared) (H : Hp) (C : Addr) (cl : List (Str × Addr)) (fp : List Addr), DG (X.blk s H scope (compEnvC scope cl C X.env) fp) B tg g rg) (hw : Keeps g (own.map (·.2)))
    (ht : ∀ (s : Shared) (H : Hp) (C : Addr) (cl : List (Str × Addr)) (fp : List Addr), DTs (X.blk s H scope (compEnvC scope cl C X.env) fp) B ifs tt rt)
    (he : ∀ (s : Shared) (H : Hp) (C : Addr) (cl : List (Str × Addr)) (fp : List Addr), DE (X.blk s H scope (compEnvC scope cl C X.env) fp) B elt te re) (hs : ∀ x, foldedSetIterable iter X.env x = pure x := by intro _; rfl) :
    DS X B (.Assign [.Name y py] (.ListComp elt [⟨tg, iter, ifs, 0⟩] scope pos) spos) (tAsg (tLc wi g tt te (own.map (·.2))) (gName i)) (rSet i (rLc ri rg rt re (own.map (·.2)))) :=
  ⟨ps_setLc hc hN hy hyl hsw hi.pi ok (fun s H C cl fp => (hg s H C cl fp).pg) (fun s H C cl fp => (ht s H C cl fp).pts) (fun s H C cl fp => (he s H C cl fp).pe) hs,
    fun τ D k E σ H ρ R q => lc_sim (Kf := X.K) hi.sim (hg X.s_0 X.H_0 0 [] []).sim hw (ht X.s_0 X.H_0 0 [] []).sim (he X.s_0 X.H_0 0 [] []).sim σ H ρ τ _ _ R q fun w ρ' v H' q' ⟨S, ow, R'⟩ => by
      obtain ⟨ow', R2⟩ := R'.toSlot (i := i)
      exact E.nx _ _ _ ⟨S, ow', R2⟩ q'⟩
end
end DL

set_option maxHeartbeats 1000000
namespace DL
open PySem PySem.Spec PyProof.Rows L2
/-! ### operators -/
def gAdd : G2 := fun x y k => match x, y with
  | .v (.int i), .v (.int j) => k (.v (.int (i + j)))
  | .v (.str i), .v (.str j) => i.length + j.length ≤ sizeLine ∧ k (.v (.str (i ++ j)))
  | .v (.tup i), .v (.tup j) => i.length + j.length ≤ sizeLine ∧ k (.v (.tup (i ++ j)))
  | .v (.lst i), .v (.lst j) => i.length + j.length ≤ sizeLine ∧ k (.o (i ++ j))
  | .o i, .v (.lst j) => i.length + j.length ≤ sizeLine ∧ k (.o (i ++ j))
  | .v (.lst i), .o j => i.length + j.length ≤ sizeLine ∧ k (.o (i ++ j))
  | .o i, .o j => i.length + j.length ≤ sizeLine ∧ k (.o (i ++ j))
  | _, _ => False
def rAddA (K : PySem.W.Frag) : R2 := fun x y H Q => (rI0 (fun i j => .int (i + j)) x y H Q ∨ (∃ i j, x = .str i ∧ y = .str j ∧ i.length + j.length ≤ sizeLine ∧ Q (.str (i ++ j)) H)) ∨ (rCat x y H Q ∨ rCatA K x y H Q)
section
variable {X : Cx}
theorem op_addA : OpR X (binaryOp .Add) (rAddA X.K) := (op_add.or op_add_str).or (op_cat.or op_catA)
end
section
variable {K : PySem.W.Frag} {S : Addr → Prop} {z : Option (Addr × Addr)} {H : Hp} {ow : Addr → Option Ow} {o : Ow} {x y : V} {wx wy : W}
theorem cat_sim {B : Bs} {σ : L2.St} {ρ : EN} {τ : List (V × W)} {o' : Ow} {i j : List D} {Q : VK} {k : W → Prop} (R : RelS K B S ow σ H ρ τ) (hx : Rw K S B.z H ow o x wx) (hy : Rw K S B.z H ow o' y wy) (e1 : itM wx = some i) (e2 : itM wy = some j)
    (h : i.length + j.length ≤ sizeLine ∧ k (.o (i ++ j))) (f : ∀ w v H', k w → Rel K B σ H' ρ ((v, w) :: τ) → Q v H') : rCat x y H Q := by
  obtain ⟨a, vs, rfl, h1, l1, r1⟩ := hx.lstM e1
  obtain ⟨b, us, rfl, h2, l2, r2⟩ := hy.lstM e2
  have hl : (vs ++ us).length ≤ sizeLine := by rw [List.length_append, r1.length, r2.length]; exact h.1
  refine ⟨a, b, vs, us, rfl, rfl, h1, h2, by rw [r1.length, r2.length]; exact h.1, fun p hp => ?_⟩
  exact f _ _ _ h.2 ⟨S, _, R.newLst hp ⟨hl, r1.append r2⟩⟩
end
theorem sim_add {K : PySem.W.Frag} : Sim2 K (rAddA K) gAdd := fun B S ow σ H ρ τ o o' x y wx wy Q k R hx hy h f => by
  unfold gAdd at h
  split at h
  · exact .inl (.inl ⟨_, _, hx.int, hy.int, f _ _ H h ⟨S, ow, R.push (.int _)⟩⟩)
  · exact .inl (.inr ⟨_, _, hx.str, hy.str, h.1, f _ _ H h.2 ⟨S, ow, R.push (.str _)⟩⟩)
  · obtain ⟨a, vs, rfl, h1, l1, r1⟩ := hx.tup
    obtain ⟨b, us, rfl, h2, l2, r2⟩ := hy.tup
    have hl : (vs ++ us).length ≤ sizeLine := by rw [List.length_append, r1.length, r2.length]; exact h.1
    refine .inr (.inr ⟨a, b, vs, us, rfl, rfl, h1, h2, by rw [r1.length, r2.length]; exact h.1, fun e => ?_, fun _ e => ?_, fun _ _ p hp => ?_⟩)
    · subst e
      cases r1
      exact f _ _ H h.2 ⟨S, ow, R.push (.tup h2 l2 r2)⟩
    · subst e
      cases r2
      rename_i i _ _
      have q := h.2
      rw [List.append_nil] at q
      exact f _ _ H q ⟨S, ow, R.push (.tup h1 l1 r1)⟩
    · exact f _ _ _ h.2 ⟨S, ow, R.newTup hp hl (r1.append r2)⟩
  · exact .inr (.inl (cat_sim R hx hy rfl rfl h f))
  · exact .inr (.inl (cat_sim R hx hy rfl rfl h f))
  · exact .inr (.inl (cat_sim R hx hy rfl rfl h f))
  · exact .inr (.inl (cat_sim R hx hy rfl rfl h f))
  · exact h.elim
section
variable {X : Cx} {B : Bs} {a b e : Expr} {ta tb te : TE} {ra rb re : RE} {pos : Pos}
theorem de_add (ha : DE X B a ta ra) (hb : DE X B b tb rb) : DE X B (.BinOp a .Add b pos) (tOp (rAddA X.K) ta tb) (rBin gAdd ra rb) := de_op op_addA sim_add ha hb
/-! numbers -/
abbrev gI0 (g : Int → Int → Int) : G2 := g2I (fun _ _ => True) fun i j => .int (g i j)
abbrev gIB (g : Int → Int → Bool) : G2 := g2I (fun _ _ => True) fun i j => .bl (g i j)
def gSub : G2 := fun x y k => match x, y with
  | .v (.int i), .v (.int j) => k (.v (.int (i - j)))
  | _, _ => False
theorem sim_2 {K : PySem.W.Frag} {r : R2} {C : Int → Int → Prop} {gd : Int → Int → D} {g : G2} (h : Sim2 K r (g2I C gd)) (e : ∀ x y k, g x y k → g2I C gd x y k) : Sim2 K r g := fun B S ow σ H ρ τ o o' x y wx wy Q k R hx hy q f => h B S ow σ H ρ τ o o' x y wx wy Q k R hx hy (e _ _ _ q) f
theorem de_sub (ha : DE X B a ta ra) (hb : DE X B b tb rb) : DE X B (.BinOp a .Sub b pos) (tOp (rI0 fun i j => .int (i - j)) ta tb) (rBin gSub ra rb) :=
  de_op op_sub (sim_2 (sim_I0 (gd := fun i j => .int (i - j)) fun _ _ _ _ _ => .int _) fun x y k q => by unfold gSub at q; split at q; exact ⟨trivial, q⟩; exact q.elim) ha hb
/-- a product: one of both small, or both together below a million bits -/
def MulOk (i j : Int) : Prop := (-(2 ^ 64) < i ∧ i < 2 ^ 64) ∨ (-(2 ^ 64) < j ∧ j < 2 ^ 64) ∨ i.natAbs.log2 + j.natAbs.log2 < 1000000
def gMul : G2 := fun x y k => match x, y with
  | .v (.int i), .v (.int j) => MulOk i j ∧ k (.v (.int (i * j)))
  | _, _ => False
theorem op_mulA : OpR X (binaryOp .Mult) (rI MulOk fun i j => .int (i * j)) := opI fun i j _ _ _ _ _ hc q => mul_int q (by
  rcases hc with h | h | h
  · exact CMul.ok (.inl h)
  · exact CMul.ok (.inr h)
  · exact CMulW.ok h)
theorem sim_mul {K : PySem.W.Frag} : Sim2 K (rI MulOk fun i j => .int (i * j)) gMul := sim_2 (sim_I (gd := fun i j => .int (i * j)) fun _ _ _ _ _ => .int _) fun x y k q => by unfold gMul at q; split at q; exact q; exact q.elim
theorem de_mul (ha : DE X B a ta ra) (hb : DE X B b tb rb) : DE X B (.BinOp a .Mult b pos) (tOp (rI MulOk fun i j => .int (i * j)) ta tb) (rBin gMul ra rb) := de_op op_mulA sim_mul ha hb
/-- a floor: the divisor above 0; it is below 2 ^ 9000, or the other is below 2 ^ 13000 -/
def FdOk (i j : Int) : Prop := 0 < j ∧ (j.natAbs.log2 < 9000 ∨ i.natAbs.log2 < 13000)
theorem FdOk.plain {i j : Int} (h : FdOk i j) : Builtin.divisionGoesByPylong i j = false := by
  obtain ⟨hj, h⟩ := h
  by_cases h1 : j.natAbs.log2 < 9000
  · exact PyProof.noPylong_of_log2 h1
  · refine (divp_ok hj ?_).2
    have h2 : i.natAbs.log2 < 13000 := h.resolve_left h1
    have b1 : Builtin.Int.intBits i ≤ i.natAbs.log2 + 1 := by
      unfold Builtin.Int.intBits
      split <;> omega
    have b2 : Builtin.Int.intBits j = j.natAbs.log2 + 1 := by
      unfold Builtin.Int.intBits
      rw [if_neg (by simp; omega)]
    omega
theorem op_fdivX {X : Cx} : OpR X (binaryOp .FloorDiv) (rI FdOk fun i j => .int (i / j)) := opI fun i j _ _ _ _ _ hc q => by
  have h1 : (0 : Int) < j := hc.1
  exact floordiv_int (by omega) (by rw [Int.fdiv_eq_ediv_of_nonneg i (by omega)]; exact q) (.inl hc.plain)
def gFdiv : G2 := fun x y k => match x, y with
  | .v (.int i), .v (.int j) => FdOk i j ∧ k (.v (.int (i / j)))
  | _, _ => False
theorem de_fdiv (ha : DE X B a ta ra) (hb : DE X B b tb rb) : DE X B (.BinOp a .FloorDiv b pos) (tOp (rI FdOk fun i j => .int (i / j)) ta tb) (rBin gFdiv ra rb) :=
  de_op op_fdivX (sim_2 (sim_I (gd := fun i j => .int (i / j)) fun _ _ _ _ _ => .int _) fun x y k q => by unfold gFdiv at q; split at q; exact q; exact q.elim) ha hb
def gMod : G2 := fun x y k => match x, y with
  | .v (.int i), .v (.int j) => 0 < j ∧ k (.v (.int (i % j)))
  | _, _ => False
theorem de_mod (ha : DE X B a ta ra) (hb : DE X B b tb rb) : DE X B (.BinOp a .Mod b pos) (tOp (rI (fun _ j => 0 < j) fun i j => .int (i % j)) ta tb) (rBin gMod ra rb) :=
  de_op op_mod (sim_2 (sim_I (gd := fun i j => .int (i % j)) fun _ _ _ _ _ => .int _) fun x y k q => by unfold gMod at q; split at q; exact q; exact q.elim) ha hb
def gPow : G2 := fun x y k => match x, y with
  | .v (.int i), .v (.int j) => (0 ≤ j ∧ j ≤ 1000000 ∧ i.natAbs < 2 ^ 64) ∧ k (.v (.int (i ^ j.toNat)))
  | _, _ => False
theorem de_pow (ha : DE X B a ta ra) (hb : DE X B b tb rb) : DE X B (.BinOp a .Pow b pos) (tOp (rI CPow fun i j => .int (i ^ j.toNat)) ta tb) (rBin gPow ra rb) :=
  de_op op_pow (sim_2 (sim_I (gd := fun i j => .int (i ^ j.toNat)) fun _ _ _ _ _ => .int _) fun x y k q => by unfold gPow at q; split at q; exact q; exact q.elim) ha hb
def gShr : G2 := fun x y k => match x, y with
  | .v (.int i), .v (.int j) => 0 ≤ j ∧ k (.v (.int (i / 2 ^ j.toNat)))
  | _, _ => False
theorem de_shr (ha : DE X B a ta ra) (hb : DE X B b tb rb) : DE X B (.BinOp a .RShift b pos) (tOp (rI (fun _ j => 0 ≤ j) fun i j => .int (i / 2 ^ j.toNat)) ta tb) (rBin gShr ra rb) :=
  de_op op_shr (sim_2 (sim_I (gd := fun i j => .int (i / 2 ^ j.toNat)) fun _ _ _ _ _ => .int _) fun x y k q => by unfold gShr at q; split at q; exact q; exact q.elim) ha hb
def gShl : G2 := fun x y k => match x, y with
  | .v (.int i), .v (.int j) => CShl i j ∧ k (.v (.int (i * 2 ^ j.toNat)))
  | _, _ => False
theorem de_shl (ha : DE X B a ta ra) (hb : DE X B b tb rb) : DE X B (.BinOp a .LShift b pos) (tOp (rI CShl fun i j => .int (i * 2 ^ j.toNat)) ta tb) (rBin gShl ra rb) :=
  de_op op_shlW (sim_2 (sim_I (gd := fun i j => .int (i * 2 ^ j.toNat)) fun _ _ _ _ _ => .int _) fun x y k q => by unfold gShl at q; split at q; exact q; exact q.elim) ha hb
def gAnd : G2 := fun x y k => match x, y with
  | .v (.int i), .v (.int j) => k (.v (.int (Builtin.bitAnd i j)))
  | _, _ => False
theorem de_band (ha : DE X B a ta ra) (hb : DE X B b tb rb) : DE X B (.BinOp a .BitAnd b pos) (tOp (rI0 fun i j => .int (Builtin.bitAnd i j)) ta tb) (rBin gAnd ra rb) :=
  de_op op_and (sim_2 (sim_I0 (gd := fun i j => .int (Builtin.bitAnd i j)) fun _ _ _ _ _ => .int _) fun x y k q => by unfold gAnd at q; split at q; exact ⟨trivial, q⟩; exact q.elim) ha hb
def gNeg : G1 := fun w k => match w with
  | .v (.int i) => k (.v (.int (-i)))
  | _ => False
theorem de_neg (ha : DE X B a ta ra) : DE X B (.UnaryOp .USub a pos) (tUn (rU fun i => .int (-i)) ta) (rUn gNeg ra) :=
  de_un un_neg (fun B S ow σ H ρ τ o x wx Q k R hx q f => by
    unfold gNeg at q
    split at q
    · exact ⟨_, hx.int, f _ _ H q ⟨S, ow, R.push (.int _)⟩⟩
    · exact q.elim) ha
/-! comparisons of numbers -/
def gLt : G2 := fun x y k => match x, y with
  | .v (.int i), .v (.int j) => k (.v (.bl (decide (i < j))))
  | _, _ => False
def gLe : G2 := fun x y k => match x, y with
  | .v (.int i), .v (.int j) => k (.v (.bl (decide (i ≤ j))))
  | _, _ => False
def gGt : G2 := fun x y k => match x, y with
  | .v (.int i), .v (.int j) => k (.v (.bl (decide (j < i))))
  | _, _ => False
def gGe : G2 := fun x y k => match x, y with
  | .v (.int i), .v (.int j) => k (.v (.bl (decide (j ≤ i))))
  | _, _ => False
theorem sim_lt {K : PySem.W.Frag} : Sim2 K (rI0 fun i j => .bl (decide (i < j))) gLt := sim_2 (sim_I0 (gd := fun i j => .bl (decide (i < j))) fun _ _ _ _ _ => .bl _) fun x y k q => by unfold gLt at q; split at q; exact ⟨trivial, q⟩; exact q.elim
theorem sim_le {K : PySem.W.Frag} : Sim2 K (rI0 fun i j => .bl (decide (i ≤ j))) gLe := sim_2 (sim_I0 (gd := fun i j => .bl (decide (i ≤ j))) fun _ _ _ _ _ => .bl _) fun x y k q => by unfold gLe at q; split at q; exact ⟨trivial, q⟩; exact q.elim
theorem sim_gt {K : PySem.W.Frag} : Sim2 K (rI0 fun i j => .bl (decide (j < i))) gGt := sim_2 (sim_I0 (gd := fun i j => .bl (decide (j < i))) fun _ _ _ _ _ => .bl _) fun x y k q => by unfold gGt at q; split at q; exact ⟨trivial, q⟩; exact q.elim
theorem sim_ge {K : PySem.W.Frag} : Sim2 K (rI0 fun i j => .bl (decide (j ≤ i))) gGe := sim_2 (sim_I0 (gd := fun i j => .bl (decide (j ≤ i))) fun _ _ _ _ _ => .bl _) fun x y k q => by unfold gGe at q; split at q; exact ⟨trivial, q⟩; exact q.elim
theorem de_lt (ha : DE X B a ta ra) (hb : DE X B b tb rb) : DE X B (.Compare a [.Lt] [b] pos) (tOp (rI0 fun i j => .bl (decide (i < j))) ta tb) (rBin gLt ra rb) := de_cmp op_lt sim_lt ha hb (nomark _)
theorem de_le (ha : DE X B a ta ra) (hb : DE X B b tb rb) : DE X B (.Compare a [.LtE] [b] pos) (tOp (rI0 fun i j => .bl (decide (i ≤ j))) ta tb) (rBin gLe ra rb) := de_cmp op_le sim_le ha hb (nomark _)
theorem de_gt (ha : DE X B a ta ra) (hb : DE X B b tb rb) : DE X B (.Compare a [.Gt] [b] pos) (tOp (rI0 fun i j => .bl (decide (j < i))) ta tb) (rBin gGt ra rb) := de_cmp op_gt sim_gt ha hb (nomark _)
theorem de_ge (ha : DE X B a ta ra) (hb : DE X B b tb rb) : DE X B (.Compare a [.GtE] [b] pos) (tOp (rI0 fun i j => .bl (decide (j ≤ i))) ta tb) (rBin gGe ra rb) := de_cmp op_ge sim_ge ha hb (nomark _)
end
end DL

set_option maxHeartbeats 1000000
namespace DL
open PySem PySem.Spec PyProof.Rows L2
/-! ### == -/
mutual
def pyD : D → Option PyData
  | .non => some .none
  | .bl b => some (.bool b)
  | .int i => some (.int i)
  | .str x => some (.str x)
  | .tup xs => (pyDs xs).map .tuple
  | .lst xs => (pyDs xs).map .list
  | .fz xs => (pyDs xs).map .list
  | .dic _ => none
  | .ins _ _ => none
  | .sto => none
  | .exc _ _ => none
  | .excF _ _ _ _ => none
def pyDs : List D → Option (List PyData)
  | [] => some []
  | d :: ds => match pyD d with
    | some p => (pyDs ds).map (p :: ·)
    | none => none
end
def pyW : W → Option PyData
  | .v d => pyD d
  | .o xs => (pyDs xs).map .list
  | .od _ => none
theorem map_some {α β : Type} {f : α → β} {o : Option α} {b : β} (h : o.map f = some b) : ∃ a, o = some a ∧ b = f a := by
  cases o with
  | none => cases h
  | some a => exact ⟨a, rfl, (Option.some.inj h).symm⟩
section
variable {K : PySem.W.Frag} {S : Addr → Prop} {z : Option (Addr × Addr)} {H : Hp}
mutual
theorem Rp.dp : ∀ {v : V} {d : D} {p : PyData}, Rp K S z H v d → pyD d = some p → Dp K H v p
  | _, _, _, .non, e => by cases e; exact .non
  | _, _, _, .bl b, e => by cases e; exact .bl b
  | _, _, _, .int i, e => by cases e; exact .int i
  | _, _, _, .str x, e => by cases e; exact .str x
  | _, _, _, .tup h _ r, e => by
    obtain ⟨ps, e1, rfl⟩ := map_some (show (pyDs _).map PyData.tuple = some _ from by simpa only [pyD] using e)
    exact .tup h (RpA.dp r e1)
  | _, _, _, .lst _ h _ r, e => by
    obtain ⟨ps, e1, rfl⟩ := map_some (show (pyDs _).map PyData.list = some _ from by simpa only [pyD] using e)
    exact .lst (SqL.of h) (RpA.dp r e1)
  | _, _, _, .fz h _ r, e => by
    obtain ⟨ps, e1, rfl⟩ := map_some (show (pyDs _).map PyData.list = some _ from by simpa only [pyD] using e)
    exact .lst h.sq (RpA.dp r e1)
  | _, _, _, .dic _ _ _ _, e => by simp [pyD] at e
  | _, _, _, .ins _ _ _ _, e => by simp [pyD] at e
  | _, _, _, .sto _, e => by simp [pyD] at e
  | _, _, _, .exc, e => by simp [pyD] at e
  | _, _, _, .excF _ _ _ _, e => by simp [pyD] at e
theorem RpA.dp : ∀ {vs : List V} {ds : List D} {ps : List PyData}, RpA K S z H vs ds → pyDs ds = some ps → DpAll K H vs ps
  | _, _, _, .nil, e => by simp [pyDs] at e; subst e; exact .nil
  | _, _, _, .cons (d := d) h r, e => by
    unfold pyDs at e
    cases e1 : pyD d with
    | none => rw [e1] at e; cases e
    | some p =>
      rw [e1] at e
      obtain ⟨qs, e2, rfl⟩ := map_some e
      exact .cons (Rp.dp h e1) (RpA.dp r e2)
end
theorem Rw.dp {ow : Addr → Option Ow} {o : Ow} {v : V} {w : W} {p : PyData} (h : Rw K S z H ow o v w) (e : pyW w = some p) : Dp K H v p := by
  cases w with
  | v d => exact Rp.dp h e
  | o xs =>
    obtain ⟨a, vs, rfl, _, h1, _, r⟩ := h
    obtain ⟨ps, e1, rfl⟩ := map_some e
    exact .lst (SqL.of h1) (RpA.dp r e1)
  | od _ => cases e
end
/-- may be compared: none, bools, numbers, texts; lists and tuples of those, not too deep -/
def okW : W → Prop
  | .v .non => True
  | .v (.bl _) => True
  | .v (.int _) => True
  | .v (.str x) => PyData.strOk x = true
  | w => ∃ p, pyW w = some p ∧ SeqAt.shaped p = true
def eqW : W → W → Bool
  | .v (.int i), .v (.int j) => decide (i = j)
  | .v (.str i), .v (.str j) => decide (i = j)
  | .v (.bl i), .v (.bl j) => decide (i = j)
  | .v .non, .v .non => true
  | x, y => match pyW x, pyW y with
    | some p, some q => PyData.eqv p q
    | _, _ => false
theorem okW_ok {w : W} (h : okW w) : ∃ p, pyW w = some p ∧ SeqAt.shaped p = true := by
  cases w with
  | o xs => exact h
  | od xs => exact h
  | v d =>
    cases d with
    | non => exact ⟨_, rfl, by decide⟩
    | bl b => exact ⟨_, rfl, by rfl⟩
    | int i => exact ⟨_, rfl, by rfl⟩
    | str x =>
      have h0 : PyData.strOk x = true := h
      refine ⟨_, rfl, ?_⟩
      unfold SeqAt.shaped PyData.canLay0
      rw [h0]
      rfl
    | _ => exact h
theorem eqW_ok {x y : W} {p q : PyData} (hp : pyW x = some p) (hq : pyW y = some q) : PyData.eqv p q = eqW x y := by
  have gen : (match pyW x, pyW y with
    | some p, some q => PyData.eqv p q
    | _, _ => false) = PyData.eqv p q := by rw [hp, hq]
  unfold eqW
  split
  · cases hp; cases hq
    unfold PyData.eqv
    exact Bool.beq_eq_decide_eq _ _
  · cases hp; cases hq
    unfold PyData.eqv
    exact Bool.beq_eq_decide_eq _ _
  · cases hp; cases hq
    unfold PyData.eqv
    exact Bool.beq_eq_decide_eq _ _
  · cases hp; cases hq
    unfold PyData.eqv
    rfl
  · exact gen.symm
def gEq : G2 := fun x y k => okW x ∧ okW y ∧ k (.v (.bl (eqW x y)))
def gNe : G2 := fun x y k => okW x ∧ okW y ∧ k (.v (.bl (!eqW x y)))
theorem sim_eq {K : PySem.W.Frag} : Sim2 K (rEqD K) gEq := fun B S ow σ H ρ τ o o' x y wx wy Q k R hx hy ⟨h1, h2, h⟩ f => by
  obtain ⟨p, e1, s1⟩ := okW_ok h1
  obtain ⟨q, e2, s2⟩ := okW_ok h2
  refine ⟨p, q, hx.dp e1, hy.dp e2, s1, s2, ?_⟩
  rw [eqW_ok e1 e2]
  exact f _ _ H h ⟨S, ow, R.push (.bl _)⟩
theorem sim_ne {K : PySem.W.Frag} : Sim2 K (rNeD K) gNe := fun B S ow σ H ρ τ o o' x y wx wy Q k R hx hy ⟨h1, h2, h⟩ f => by
  obtain ⟨p, e1, s1⟩ := okW_ok h1
  obtain ⟨q, e2, s2⟩ := okW_ok h2
  refine ⟨p, q, hx.dp e1, hy.dp e2, s1, s2, ?_⟩
  rw [eqW_ok e1 e2]
  exact f _ _ H h ⟨S, ow, R.push (.bl _)⟩
/-! is None, is True -/
def isN : W → Bool
  | .v .non => true
  | _ => false
theorem isN_ok {K : PySem.W.Frag} {S : Addr → Prop} {z : Option (Addr × Addr)} {H : Hp} {ow : Addr → Option Ow} {o : Ow} {v : V} {w : W} (h : Rw K S z H ow o v w) : decide (v = .non) = isN w := by
  cases w with
  | v d =>
    have h0 : Rp K S z H v d := h
    cases h0 <;> rfl
  | o xs => obtain ⟨a, vs, rfl, _⟩ := h; rfl
  | od xs => obtain ⟨a, vs, rfl, _⟩ := h; rfl
def rIsN (re : RE) : RE := fun ρ k => re ρ fun w ρ' => k (.v (.bl (isN w))) ρ'
def rNotN (re : RE) : RE := fun ρ k => re ρ fun w ρ' => k (.v (.bl (!isN w))) ρ'
def gIsB : G2 := fun x y k => match x, y with
  | .v (.bl a), .v (.bl b) => k (.v (.bl (decide (a = b))))
  | _, _ => False
def gNotB : G2 := fun x y k => match x, y with
  | .v (.bl a), .v (.bl b) => k (.v (.bl (!decide (a = b))))
  | _, _ => False
section
variable {X : Cx} {B : Bs} {a b e : Expr} {ta tb te : TE} {ra rb re : RE} {pos : Pos}
theorem de_eq (hu : X.A.units + 64 < cLine) (ha : DE X B a ta ra) (hb : DE X B b tb rb) : DE X B (.Compare a [.Eq] [b] pos) (tOp (rEqD X.K) ta tb) (rBin gEq ra rb) := de_cmp (op_eqD hu) sim_eq ha hb (nomark _)
theorem de_ne (hu : X.A.units + 64 < cLine) (ha : DE X B a ta ra) (hb : DE X B b tb rb) : DE X B (.Compare a [.NotEq] [b] pos) (tOp (rNeD X.K) ta tb) (rBin gNe ra rb) := de_cmp (op_neD hu) sim_ne ha hb (nomark _)
theorem de_isN {j pos'} (ha : DE X B a ta ra) : DE X B (.Compare a [.Is] [.Constant .none j pos'] pos) (tIsN ta) (rIsN ra) :=
  ⟨pe_cmp (pc_isN ha.pe) rfl, fun σ H ρ τ Q k R q f => ha.sim σ H ρ τ _ _ R q fun w ρ' v H' q' ⟨S, ow, R'⟩ => by
    rw [isN_ok R'.top]
    exact f _ _ _ H' q' ⟨S, ow, R'.pop.push (.bl _)⟩⟩
theorem de_notN {j pos'} (ha : DE X B a ta ra) : DE X B (.Compare a [.IsNot] [.Constant .none j pos'] pos) (tNotN ta) (rNotN ra) :=
  ⟨pe_cmp (pc_notN ha.pe) rfl, fun σ H ρ τ Q k R q f => ha.sim σ H ρ τ _ _ R q fun w ρ' v H' q' ⟨S, ow, R'⟩ => by
    rw [isN_ok R'.top]
    exact f _ _ _ H' q' ⟨S, ow, R'.pop.push (.bl _)⟩⟩
theorem de_isB (ha : DE X B a ta ra) (hb : DE X B b tb rb) : DE X B (.Compare a [.Is] [b] pos) (tOp (fun x y H Q => ∃ a b, x = .bl a ∧ y = .bl b ∧ Q (.bl (decide (a = b))) H) ta tb) (rBin gIsB ra rb) :=
  de_cmp op_is_bl (fun B S ow σ H ρ τ o o' x y wx wy Q k R hx hy h f => by
    unfold gIsB at h
    split at h
    · exact ⟨_, _, hx.bl, hy.bl, f _ _ H h ⟨S, ow, R.push (.bl _)⟩⟩
    · exact h.elim) ha hb (nomark _)
theorem de_notB (ha : DE X B a ta ra) (hb : DE X B b tb rb) : DE X B (.Compare a [.IsNot] [b] pos) (tOp (fun x y H Q => ∃ a b, x = .bl a ∧ y = .bl b ∧ Q (.bl (!decide (a = b))) H) ta tb) (rBin gNotB ra rb) :=
  de_cmp op_isnot_bl (fun B S ow σ H ρ τ o o' x y wx wy Q k R hx hy h f => by
    unfold gNotB at h
    split at h
    · exact ⟨_, _, hx.bl, hy.bl, f _ _ H h ⟨S, ow, R.push (.bl _)⟩⟩
    · exact h.elim) ha hb (nomark _)
end
/-! ### subscripts -/
def gIx : G2 := fun x y k => match x, y with
  | .v (.tup xs), .v (.int i) => ∃ d, atI xs i = some d ∧ k (.v d)
  | .v (.lst xs), .v (.int i) => ∃ d, atI xs i = some d ∧ k (.v d)
  | .v (.fz xs), .v (.int i) => ∃ d, atI xs i = some d ∧ k (.v d)
  | .o xs, .v (.int i) => ∃ d, atI xs i = some d ∧ k (.v d)
  | .v (.str s), .v (.int i) => s.length ≤ sizeLine ∧ ∃ c, atI s.cps.toList i = some c ∧ k (.v (.str ⟨#[c]⟩))
  | _, _ => False
theorem RpA.atI {K : PySem.W.Frag} {S : Addr → Prop} {z : Option (Addr × Addr)} {H : Hp} {vs : List V} {ds : List D} {i : Int} {d : D} (r : RpA K S z H vs ds) (h : L2.atI ds i = some d) : ∃ v, L2.atI vs i = some v ∧ Rp K S z H v d := by
  unfold L2.atI at h ⊢
  rw [r.length]
  cases e : ixN ds.length i with
  | none => rw [e] at h; cases h
  | some j =>
    rw [e] at h
    exact r.get h
theorem ixL_sim {K : PySem.W.Frag} {B : Bs} {S : Addr → Prop} {ow : Addr → Option Ow} {σ : L2.St} {H : Hp} {ρ : EN} {τ : List (V × W)} {o o' : Ow} {x y : V} {wx : W} {xs : List D} {i : Int} {Q : VK} {k : W → Prop} (R : RelS K B S ow σ H ρ τ) (hx : Rw K S B.z H ow o x wx) (hy : Rw K S B.z H ow o' y (.v (.int i)))
    (e : itL wx = some xs) (h : ∃ d, L2.atI xs i = some d ∧ k (.v d)) (f : ∀ w v H', k w → Rel K B σ H' ρ ((v, w) :: τ) → Q v H') : rIx K x y H Q := by
  obtain ⟨a, vs, rfl, h1, l, r⟩ := hx.lst e
  obtain ⟨d, hd, q⟩ := h
  obtain ⟨v, hv, rv⟩ := r.atI hd
  exact .inl ⟨a, vs, i, v, rfl, hy.int, h1, hv, f _ _ H q ⟨S, ow, R.push rv⟩⟩
theorem sim_ix {K : PySem.W.Frag} : Sim2 K (rIx K) gIx := fun B S ow σ H ρ τ o o' x y wx wy Q k R hx hy h f => by
  unfold gIx at h
  split at h
  · obtain ⟨a, vs, rfl, h1, l, r⟩ := hx.tup
    obtain ⟨d, hd, q⟩ := h
    obtain ⟨v, hv, rv⟩ := r.atI hd
    exact .inr (.inl ⟨a, vs, _, v, rfl, hy.int, h1, hv, f _ _ H q ⟨S, ow, R.push rv⟩⟩)
  · exact ixL_sim R hx hy rfl h f
  · exact ixL_sim R hx hy rfl h f
  · exact ixL_sim R hx hy rfl h f
  · obtain ⟨hl, c, hc, q⟩ := h
    exact .inr (.inr ⟨_, _, c, hx.str, hy.int, hl, hc, f _ _ H q ⟨S, ow, R.push (.str _)⟩⟩)
  · exact h.elim
section
variable {X : Cx} {B : Bs} {a b e : Expr} {ta tb te : TE} {ra rb re : RE} {pos : Pos}
theorem de_ix (ha : DE X B a ta ra) (hb : DE X B b tb rb) (hs : PlainIx b := by exact fun _ _ => rfl) : DE X B (.Subscript a b pos) (tOp (rIx X.K) ta tb) (rBin gIx ra rb) :=
  ⟨pe_ix ix_seq ha.pe hb.pe hs, sim_op sim_ix ha hb⟩
theorem de_ixP (i : Nat) {x : Str} {pos' : Pos} (hp : PE X (.Name x pos') (tVar i)) (hb : DE X B b tb rb) (hs : PlainIx b := by exact fun _ _ => rfl) : DE X B (.Subscript (.Name x pos') b pos) (tOp (rIx X.K) (tVar i) tb) (rBinP' gIx i rb) :=
  ⟨pe_ix ix_seq hp hb.pe hs, sim_opP' sim_ix hb⟩
end
/-! ### built-ins of one argument -/
section
variable {X : Cx} {B : Bs} {e : Expr} {te : TE} {re : RE} {p pos : Pos} {x : Str}
theorem de_b1 {id : String} {r : List V → Hp → VK → Prop} {g : G1} (hc : CallR X (.builtin id) r) (h : Sim1 X.K (fun v => r [v]) g) (he : DE X B e te re) (hm : X.mg x = none) (hv : bootBuiltins x = some (.builtin id)) (hg : Gl X x := by rfl) (hn : x ≠ "__name__" := by decide) (hdb : (x == ("__debug__" : Str)) = false := by decide)
    (hs : starEach (e :: []) X.env = (false, eval e X.env) :: starEach [] X.env := by rfl) (hcall : PE X (.Call (.Name x p) [e] [] pos) (tCB r (tCons te tNil)) := by exact pe_callB hc hg hm hv (pa_cons he.pe pa_nil hs) hn hdb) : DE X B (.Call (.Name x p) [e] [] pos) (tCB r (tCons te tNil)) (rUn g re) :=
  ⟨hcall, fun σ H ρ τ Q k R q f => he.sim σ H ρ τ _ _ R q fun w ρ' v H' q' ⟨S, ow, R'⟩ => h B S ow σ H' ρ' τ _ v w Q _ R'.pop R'.top q' fun w2 v2 H2 q2 R2 => f w2 ρ' v2 H2 q2 R2⟩
theorem de_t1 {T : String} {r : List V → Hp → VK → Prop} {g : G1} (hc : CallR X (.type T) r) (h : Sim1 X.K (fun v => r [v]) g) (he : DE X B e te re) (hm : X.mg x = none) (hv : bootBuiltins x = some (.type T)) (hg : Gl X x := by rfl) (hn : x ≠ "__name__" := by decide) (hdb : (x == ("__debug__" : Str)) = false := by decide)
    (hs : starEach (e :: []) X.env = (false, eval e X.env) :: starEach [] X.env := by rfl) (hcall : PE X (.Call (.Name x p) [e] [] pos) (tCB r (tCons te tNil)) := by exact pe_callTy hc hg hm hv (pa_cons he.pe pa_nil hs) hn hdb) : DE X B (.Call (.Name x p) [e] [] pos) (tCB r (tCons te tNil)) (rUn g re) :=
  ⟨hcall, fun σ H ρ τ Q k R q f => he.sim σ H ρ τ _ _ R q fun w ρ' v H' q' ⟨S, ow, R'⟩ => h B S ow σ H' ρ' τ _ v w Q _ R'.pop R'.top q' fun w2 v2 H2 q2 R2 => f w2 ρ' v2 H2 q2 R2⟩
/-- the argument a name whose list stays its own -/
def rPk (g : G1) (i : Nat) : RE := fun ρ k => match gt ρ i with
  | some w => g w fun w' => k w' ρ
  | none => False
theorem pk_sim {i : Nat} {r : List V → Hp → VK → Prop} {g : G1} (h : Sim1 X.K (fun v => r [v]) g) (σ : L2.St) (H : Hp) (ρ : EN) (τ : List (V × W)) (Q : VK) (k : W → EN → Prop) (R : Rel X.K B σ H ρ τ) (q : rPk g i ρ k) (f : ∀ w ρ' v H', k w ρ' → Rel X.K B σ H' ρ' ((v, w) :: τ) → Q v H') : tCB r (tCons (tVar i) tNil) σ H Q := by
  obtain ⟨S, ow, R⟩ := R
  unfold rPk at q
  split at q
  · rename_i w e
    obtain ⟨v, h1, h2⟩ := R.sl i w e
    exact ⟨v, h1, h B S ow σ H ρ τ _ v w Q _ R h2 q fun w2 v2 H2 q2 R2 => f w2 ρ v2 H2 q2 R2⟩
  · exact q.elim
theorem de_b1P {id : String} {r : List V → Hp → VK → Prop} {g : G1} (i : Nat) {y : Str} {py : Pos} (hc : CallR X (.builtin id) r) (h : Sim1 X.K (fun v => r [v]) g) (hp : PE X (.Name y py) (tVar i)) (hm : X.mg x = none) (hv : bootBuiltins x = some (.builtin id)) (hg : Gl X x := by rfl) (hn : x ≠ "__name__" := by decide) (hdb : (x == ("__debug__" : Str)) = false := by decide)
    (hs : starEach (.Name y py :: []) X.env = (false, eval (.Name y py) X.env) :: starEach [] X.env := by rfl) : DE X B (.Call (.Name x p) [.Name y py] [] pos) (tCB r (tCons (tVar i) tNil)) (rPk g i) :=
  ⟨pe_callB hc hg hm hv (pa_cons hp pa_nil hs) hn hdb, pk_sim h⟩
theorem de_t1P {T : String} {r : List V → Hp → VK → Prop} {g : G1} (i : Nat) {y : Str} {py : Pos} (hc : CallR X (.type T) r) (h : Sim1 X.K (fun v => r [v]) g) (hp : PE X (.Name y py) (tVar i)) (hm : X.mg x = none) (hv : bootBuiltins x = some (.type T)) (hg : Gl X x := by rfl) (hn : x ≠ "__name__" := by decide) (hdb : (x == ("__debug__" : Str)) = false := by decide)
    (hs : starEach (.Name y py :: []) X.env = (false, eval (.Name y py) X.env) :: starEach [] X.env := by rfl) : DE X B (.Call (.Name x p) [.Name y py] [] pos) (tCB r (tCons (tVar i) tNil)) (rPk g i) :=
  ⟨pe_callTy hc hg hm hv (pa_cons hp pa_nil hs) hn hdb, pk_sim h⟩
end
/-! len, abs, int, tuple, list, sum, all, any -/
def gLen : G1 := fun w k => match w with
  | .v (.tup xs) => k (.v (.int xs.length))
  | .v (.lst xs) => k (.v (.int xs.length))
  | .v (.fz xs) => k (.v (.int xs.length))
  | .o xs => k (.v (.int xs.length))
  | .v (.str s) => s.length ≤ sizeLine ∧ k (.v (.int s.length))
  | _ => False
theorem sim_len {K : PySem.W.Frag} : Sim1 K (fun v => (fun xs H Q => (∃ p ys, xs = [.ref p] ∧ (SqL K H p ys ∨ SqT K H p ys) ∧ Q (.int ys.length) H) ∨ ∃ z, xs = [.str z] ∧ z.length ≤ sizeLine ∧ Q (.int z.length) H) [v]) gLen := fun B S ow σ H ρ τ o x wx Q k R hx h f => by
  have sq : ∀ {ds : List D}, itS wx = some ds → k (.v (.int ds.length)) → (∃ p ys, [x] = [V.ref p] ∧ (SqL K H p ys ∨ SqT K H p ys) ∧ Q (.int ys.length) H) := fun {ds} e q => by
    obtain ⟨a, vs, rfl, h1, l, r⟩ := hx.seq e
    refine ⟨a, vs, rfl, h1, ?_⟩
    rw [r.length]
    exact f _ _ H q ⟨S, ow, R.push (.int _)⟩
  unfold gLen at h
  split at h
  · exact .inl (sq rfl h)
  · exact .inl (sq rfl h)
  · exact .inl (sq rfl h)
  · exact .inl (sq rfl h)
  · exact .inr ⟨_, by rw [hx.str], h.1, f _ _ H h.2 ⟨S, ow, R.push (.int _)⟩⟩
  · exact h.elim
def gAbs : G1 := fun w k => match w with
  | .v (.int i) => k (.v (.int (if i < 0 then -i else i)))
  | _ => False
theorem sim_abs {K : PySem.W.Frag} : Sim1 K (fun v => (fun xs H Q => ∃ i, xs = [.int i] ∧ Q (.int (if i < 0 then -i else i)) H) [v]) gAbs := fun B S ow σ H ρ τ o x wx Q k R hx h f => by
  unfold gAbs at h
  split at h
  · exact ⟨_, by rw [hx.int], f _ _ H h ⟨S, ow, R.push (.int _)⟩⟩
  · exact h.elim
def gInt : G1 := fun w k => match w with
  | .v (.int i) => k (.v (.int i))
  | .v (.bl b) => k (.v (.int (if b then 1 else 0)))
  | _ => False
theorem sim_int {K : PySem.W.Frag} : Sim1 K (fun v => (fun xs H Q => (∃ i, xs = [.int i] ∧ Q (.int i) H) ∨ ∃ k, xs = [.bl k] ∧ Q (.int (if k then 1 else 0)) H) [v]) gInt := fun B S ow σ H ρ τ o x wx Q k R hx h f => by
  unfold gInt at h
  split at h
  · exact .inl ⟨_, by rw [hx.int], f _ _ H h ⟨S, ow, R.push (.int _)⟩⟩
  · exact .inr ⟨_, by rw [hx.bl], f _ _ H h ⟨S, ow, R.push (.int _)⟩⟩
  · exact h.elim
def gTuple : G1 := fun w k => ∃ ds, itS w = some ds ∧ k (.v (.tup ds))
theorem sim_tuple {K : PySem.W.Frag} : Sim1 K (fun v => (fun xs H Q => ∃ p ys, xs = [.ref p] ∧ ((SqL K H p ys ∧ ∀ l, H l = none → Q (.ref l) (upd H l (.tup ys))) ∨ (SqT K H p ys ∧ Q (.ref p) H))) [v]) gTuple := fun B S ow σ H ρ τ o x wx Q k R hx ⟨ds, e, h⟩ f => by
  rcases it_or e with e1 | rfl
  · obtain ⟨a, vs, rfl, h1, l, r⟩ := hx.lst e1
    exact ⟨a, vs, rfl, .inl ⟨h1, fun p hp => f _ _ _ h ⟨S, ow, R.newTup hp l r⟩⟩⟩
  · obtain ⟨a, vs, rfl, h1, l, r⟩ := hx.tup
    exact ⟨a, vs, rfl, .inr ⟨h1, f _ _ _ h ⟨S, ow, R.push (.tup h1 l r)⟩⟩⟩
def gList : G1 := fun w k => ∃ ds, itS w = some ds ∧ k (.o ds)
theorem sim_list {K : PySem.W.Frag} : Sim1 K (fun v => (fun xs H Q => ∃ p ys, xs = [.ref p] ∧ (SqL K H p ys ∨ SqT K H p ys) ∧ ∀ l, H l = none → Q (.ref l) (upd H l (.lst ys))) [v]) gList := fun B S ow σ H ρ τ o x wx Q k R hx ⟨ds, e, h⟩ f => by
  obtain ⟨a, vs, rfl, h1, l, r⟩ := hx.seq e
  exact ⟨a, vs, rfl, h1, fun p hp => f _ _ _ h ⟨S, _, R.newLst hp ⟨l, r⟩⟩⟩
theorem RpA.ints {K : PySem.W.Frag} {S : Addr → Prop} {z : Option (Addr × Addr)} {H : Hp} : ∀ {ns : List Int} {vs : List V}, RpA K S z H vs (ns.map D.int) → vs = ns.map V.int
  | [], _, .nil => rfl
  | _ :: _, _, .cons h r => by
    rw [List.map_cons, ← RpA.ints r]
    cases h
    rfl
theorem RpA.bls {K : PySem.W.Frag} {S : Addr → Prop} {z : Option (Addr × Addr)} {H : Hp} : ∀ {ns : List Bool} {vs : List V}, RpA K S z H vs (ns.map D.bl) → vs = ns.map V.bl
  | [], _, .nil => rfl
  | _ :: _, _, .cons h r => by
    rw [List.map_cons, ← RpA.bls r]
    cases h
    rfl
def gSum : G1 := fun w k => ∃ ns : List Int, itL w = some (ns.map .int) ∧ k (.v (.int ns.sum))
theorem sim_sum {K : PySem.W.Frag} : Sim1 K (fun v => rSum K [v]) gSum := fun B S ow σ H ρ τ o x wx Q k R hx ⟨ns, e, h⟩ f => by
  obtain ⟨a, vs, rfl, h1, l, r⟩ := hx.lst e
  exact ⟨a, ns, rfl, by rw [← r.ints]; exact h1, f _ _ H h ⟨S, ow, R.push (.int _)⟩⟩
/-! isinstance -/
inductive Ty where
  | non | bl | int | str | tup | lst | dic
def Ty.name : Ty → String
  | .non => "NoneType"
  | .bl => "bool"
  | .int => "int"
  | .str => "str"
  | .tup => "tuple"
  | .lst => "list"
  | .dic => "dict"
def isT : Ty → Ty → Bool
  | .non, .non => true
  | .bl, .bl => true
  | .bl, .int => true
  | .int, .int => true
  | .str, .str => true
  | .tup, .tup => true
  | .lst, .lst => true
  | .dic, .dic => true
  | _, _ => false
theorem kit_isT (a b : Ty) : kitB a.name b.name = some (isT a b) := by cases a <;> cases b <;> decide +kernel
def tyW : W → Option Ty
  | .v .non => some .non
  | .v (.bl _) => some .bl
  | .v (.int _) => some .int
  | .v (.str _) => some .str
  | .v (.tup _) => some .tup
  | .v (.lst _) => some .lst
  | .v (.fz _) => some .lst
  | .v (.dic _) => some .dic
  | .o _ => some .lst
  | .od _ => some .dic
  | _ => none
theorem tyX_ok {K : PySem.W.Frag} {S : Addr → Prop} {z : Option (Addr × Addr)} {H : Hp} {ow : Addr → Option Ow} {o : Ow} {v : V} {w : W} {t : Ty} (h : Rw K S z H ow o v w) (e : tyW w = some t) : TyX K H v (.type t.name) := by
  cases w with
  | o xs => cases e; obtain ⟨a, vs, rfl, _, h1, _⟩ := h; exact .base (.lst h1)
  | od xs => cases e; obtain ⟨a, vs, rfl, _, h1, _⟩ := h; exact .base (.dK h1)
  | v d =>
    have h0 : Rp K S z H v d := h
    clear h
    cases h0 with
    | non => cases e; exact .base .non
    | bl b => cases e; exact .base (.bl b)
    | int i => cases e; exact .base (.int i)
    | str x => cases e; exact .base (.str x)
    | tup h1 _ _ =>
      cases e
      rcases h1 with (h1 | ⟨ob, h1⟩) | ⟨ob, its, n, h1, h2, _⟩
      · exact .base (.tup h1)
      · exact .fTuple h1
      · exact .kTuple h1 h2
    | lst _ h1 _ _ => cases e; exact .base (.lst h1)
    | fz h1 _ _ =>
      cases e
      rcases h1 with ⟨ob, h1⟩ | ⟨ob, its, n, h1, h2, _⟩
      · exact .base (.frz h1)
      · exact .kList h1 h2
    | dic _ h1 _ _ => cases e; exact .base (.dK h1)
    | ins _ _ _ _ => cases e
    | sto _ => cases e
    | exc => cases e
    | excF _ _ _ _ => cases e
def gIsi (T : Ty) : G1 := fun w k => ∃ t, tyW w = some t ∧ k (.v (.bl (isT t T)))
section
variable {X : Cx} {B : Bs} {e : Expr} {te : TE} {re : RE} {p pos pT : Pos} {x : Str}
theorem isi_sim (T : Ty) : Sim1 X.K (fun v => rIsi X.K [v, .ty T.name]) (gIsi T) := fun B S ow σ H ρ τ o v w Q k R hx ⟨t, e, h⟩ f =>
  ⟨v, _, _, _, _, rfl, .ty _, tyX_ok hx e, kit_ty (kit_isT t T), f _ _ H h ⟨S, ow, R.push (.bl _)⟩⟩
/-- isinstance(e, T), T a built-in class -/
theorem de_isi (T : Ty) (he : DE X B e te re) (hm : X.mg "isinstance" = none) (hT : X.mg x = none) (hv : bootBuiltins x = some (.type T.name)) (hg : Gl X "isinstance" := by rfl) (hgT : Gl X x := by rfl) (hn : x ≠ "__name__" := by decide) (hdb : (x == ("__debug__" : Str)) = false := by decide)
    (hs : starEach (e :: [.Name x pT]) X.env = (false, eval e X.env) :: starEach [.Name x pT] X.env := by rfl) (hs2 : starEach (.Name x pT :: []) X.env = (false, eval (.Name x pT) X.env) :: starEach [] X.env := by rfl) :
    DE X B (.Call (.Name "isinstance" p) [e, .Name x pT] [] pos) (tCB (rIsi X.K) (tCons te (tCons (tC (.ty T.name)) tNil))) (rUn (gIsi T) re) :=
  ⟨pe_callB call_isi hg hm (by decide +kernel) (pa_cons he.pe (pa_cons (pe_bltn (v := .ty T.name) hgT hT hv rfl hn hdb) pa_nil hs2) hs) (he := hs), fun σ H ρ τ Q k R q f => he.sim σ H ρ τ _ _ R q fun w ρ' v H' q' ⟨S, ow, R'⟩ =>
    isi_sim T B S ow σ H' ρ' τ _ v w Q _ R'.pop R'.top q' fun w2 v2 H2 q2 R2 => f w2 ρ' v2 H2 q2 R2⟩
end
end DL

set_option maxHeartbeats 1000000
namespace DL
open PySem PySem.Spec PyProof.Rows L2
abbrev tLenA (K : PySem.W.Frag) : List V → Hp → VK → Prop := fun xs H Q => (∃ p ys, xs = [.ref p] ∧ (SqL K H p ys ∨ SqT K H p ys) ∧ Q (.int ys.length) H) ∨ ∃ z, xs = [.str z] ∧ z.length ≤ sizeLine ∧ Q (.int z.length) H
abbrev tAbsA : List V → Hp → VK → Prop := fun xs H Q => ∃ i, xs = [.int i] ∧ Q (.int (if i < 0 then -i else i)) H
abbrev tIntA : List V → Hp → VK → Prop := fun xs H Q => (∃ i, xs = [.int i] ∧ Q (.int i) H) ∨ ∃ k, xs = [.bl k] ∧ Q (.int (if k then 1 else 0)) H
abbrev tTupA (K : PySem.W.Frag) : List V → Hp → VK → Prop := fun xs H Q => ∃ p ys, xs = [.ref p] ∧ ((SqL K H p ys ∧ ∀ l, H l = none → Q (.ref l) (upd H l (.tup ys))) ∨ (SqT K H p ys ∧ Q (.ref p) H))
abbrev tLstA (K : PySem.W.Frag) : List V → Hp → VK → Prop := fun xs H Q => ∃ p ys, xs = [.ref p] ∧ (SqL K H p ys ∨ SqT K H p ys) ∧ ∀ l, H l = none → Q (.ref l) (upd H l (.lst ys))
section
variable {X : Cx} {B : Bs} {e : Expr} {te : TE} {re : RE} {p pos : Pos}
abbrev Se (X : Cx) (e : Expr) : Prop := starEach (e :: []) X.env = (false, eval e X.env) :: starEach [] X.env
theorem de_len (he : DE X B e te re) (hm : X.mg "len" = none) (hg : Gl X "len" := by rfl) (hs : Se X e := by rfl) : DE X B (.Call (.Name "len" p) [e] [] pos) (tCB (tLenA X.K) (tCons te tNil)) (rUn gLen re) :=
  de_b1 (call_len_seq.or call_len_str) sim_len he hm PySem.boot_len hg (hs := hs) (hcall := pe_callB (call_len_seq.or call_len_str) hg hm PySem.boot_len (pa_cons he.pe pa_nil hs) (he := hs))
theorem de_abs (he : DE X B e te re) (hm : X.mg "abs" = none) (hg : Gl X "abs" := by rfl) (hs : Se X e := by rfl) : DE X B (.Call (.Name "abs" p) [e] [] pos) (tCB tAbsA (tCons te tNil)) (rUn gAbs re) :=
  de_b1 call_abs sim_abs he hm (by decide +kernel) hg (hs := hs) (hcall := pe_callB call_abs hg hm (by decide +kernel) (pa_cons he.pe pa_nil hs) (he := hs))
theorem de_intc (he : DE X B e te re) (hm : X.mg "int" = none) (hg : Gl X "int" := by rfl) (hs : Se X e := by rfl) : DE X B (.Call (.Name "int" p) [e] [] pos) (tCB tIntA (tCons te tNil)) (rUn gInt re) :=
  de_t1 call_int1 sim_int he hm (by decide +kernel) hg (hs := hs) (hcall := pe_callTy call_int1 hg hm (by decide +kernel) (pa_cons he.pe pa_nil hs) (he := hs))
theorem de_tuple (he : DE X B e te re) (hm : X.mg "tuple" = none) (hg : Gl X "tuple" := by rfl) (hs : Se X e := by rfl) : DE X B (.Call (.Name "tuple" p) [e] [] pos) (tCB (tTupA X.K) (tCons te tNil)) (rUn gTuple re) :=
  de_t1 call_tuple_of sim_tuple he hm (by decide +kernel) hg (hs := hs) (hcall := pe_callTy call_tuple_of hg hm (by decide +kernel) (pa_cons he.pe pa_nil hs) (he := hs))
theorem de_list (he : DE X B e te re) (hm : X.mg "list" = none) (hg : Gl X "list" := by rfl) (hs : Se X e := by rfl) : DE X B (.Call (.Name "list" p) [e] [] pos) (tCB (tLstA X.K) (tCons te tNil)) (rUn gList re) :=
  de_t1 call_list_of sim_list he hm (by decide +kernel) hg (hs := hs) (hcall := pe_callTy call_list_of hg hm (by decide +kernel) (pa_cons he.pe pa_nil hs) (he := hs))
theorem de_sum (hc : X.calm = true) (he : DE X B e te re) (hm : X.mg "sum" = none) (hg : Gl X "sum" := by rfl) (hs : Se X e := by rfl) : DE X B (.Call (.Name "sum" p) [e] [] pos) (tCB (rSum X.K) (tCons te tNil)) (rUn gSum re) :=
  de_b1 (cr_sum hc) sim_sum he hm (by decide +kernel) hg (hs := hs) (hcall := pe_callB (cr_sum hc) hg hm (by decide +kernel) (pa_cons he.pe pa_nil hs) (he := hs))
variable {y : Str} {py : Pos}
theorem de_lenP (i : Nat) (hp : PE X (.Name y py) (tVar i)) (hm : X.mg "len" = none) (hg : Gl X "len" := by rfl) (hs : Se X (.Name y py) := by rfl) :
    DE X B (.Call (.Name "len" p) [.Name y py] [] pos) (tCB (tLenA X.K) (tCons (tVar i) tNil)) (rPk gLen i) := de_b1P i (call_len_seq.or call_len_str) sim_len hp hm PySem.boot_len hg (hs := hs)
theorem de_tupleP (i : Nat) (hp : PE X (.Name y py) (tVar i)) (hm : X.mg "tuple" = none) (hg : Gl X "tuple" := by rfl) (hs : Se X (.Name y py) := by rfl) :
    DE X B (.Call (.Name "tuple" p) [.Name y py] [] pos) (tCB (tTupA X.K) (tCons (tVar i) tNil)) (rPk gTuple i) := de_t1P i call_tuple_of sim_tuple hp hm (by decide +kernel) hg (hs := hs)
theorem de_listP (i : Nat) (hp : PE X (.Name y py) (tVar i)) (hm : X.mg "list" = none) (hg : Gl X "list" := by rfl) (hs : Se X (.Name y py) := by rfl) :
    DE X B (.Call (.Name "list" p) [.Name y py] [] pos) (tCB (tLstA X.K) (tCons (tVar i) tNil)) (rPk gList i) := de_t1P i call_list_of sim_list hp hm (by decide +kernel) hg (hs := hs)
/-! max, min of two -/
variable {a b : Expr} {ta : TA} {ra : RA}
def rMax2 (ra : RA) : RE := fun ρ k => ra ρ fun ds ρ' => match ds with
  | [.int i, .int j] => k (.v (.int (if j > i then j else i))) ρ'
  | _ => False
def rMin2 (ra : RA) : RE := fun ρ k => ra ρ fun ds ρ' => match ds with
  | [.int i, .int j] => k (.v (.int (if j < i then j else i))) ρ'
  | _ => False
theorem de_max2 (ha : DA X B [a, b] ta ra) (hm : X.mg "max" = none) (hc : X.calm = true := by rfl) (hg : Gl X "max" := by rfl) (he : starEach (a :: [b]) X.env = (false, eval a X.env) :: starEach [b] X.env := by rfl) (hpl : (backTo pos (starEach [b] X.env)).any (·.1) = false := by rfl) :
    DE X B (.Call (.Name "max" p) [a, b] [] pos) (tCB (fun xs H Q => ∃ i j, xs = [.int i, .int j] ∧ Q (.int (if j > i then j else i)) H) ta) (rMax2 ra) :=
  ⟨pe_callB (call_max2 hc) hg hm (by decide +kernel) ha.pa (he := he) (hpl := hpl), fun σ H ρ τ Q k R q f => ha.sim σ H ρ τ _ _ R q fun ds ρ' vs H' S ow q' R' r => by
    split at q'
    · exact ⟨_, _, r.ints2, f _ _ _ H' q' ⟨S, ow, R'.push (.int _)⟩⟩
    · exact q'.elim⟩
theorem de_min2 (ha : DA X B [a, b] ta ra) (hm : X.mg "min" = none) (hc : X.calm = true := by rfl) (hg : Gl X "min" := by rfl) (he : starEach (a :: [b]) X.env = (false, eval a X.env) :: starEach [b] X.env := by rfl) (hpl : (backTo pos (starEach [b] X.env)).any (·.1) = false := by rfl) :
    DE X B (.Call (.Name "min" p) [a, b] [] pos) (tCB (fun xs H Q => ∃ i j, xs = [.int i, .int j] ∧ Q (.int (if j < i then j else i)) H) ta) (rMin2 ra) :=
  ⟨pe_callB (call_min2 hc) hg hm (by decide +kernel) ha.pa (he := he) (hpl := hpl), fun σ H ρ τ Q k R q f => ha.sim σ H ρ τ _ _ R q fun ds ρ' vs H' S ow q' R' r => by
    split at q'
    · exact ⟨_, _, r.ints2, f _ _ _ H' q' ⟨S, ow, R'.push (.int _)⟩⟩
    · exact q'.elim⟩
/-! a name's truth -/
def rTruP (i : Nat) : RT := fun ρ k => match gt ρ i with
  | some w => ∃ b, tru w = some b ∧ k b ρ
  | none => False
theorem dt_truP (i : Nat) (hp : PE X (.Name y py) (tVar i)) (he : ∀ whole, isTrue (.Name y py) X.env whole = (do let v ← whole; standAt (Expr.Name y py).pos; holding [v] (truthy v)) := by intro _; rfl) :
    DT X B (.Name y py) (fun σ H Q => tVar i σ H fun x H' => ∃ k, TruV X.K x H' k ∧ Q k H') (rTruP i) :=
  ⟨pt_truth hp he, fun σ H ρ τ Q k ⟨S, ow, R⟩ q f => by
    unfold rTruP at q
    split at q
    · rename_i w e
      obtain ⟨b, eb, q⟩ := q
      obtain ⟨v, h1, h2⟩ := R.sl i w e
      exact ⟨v, h1, b, tru_ok h2 eb, f _ _ _ q ⟨S, ow, R⟩⟩
    · exact q.elim⟩
/-! ### lists changed -/
theorem own_at {K : PySem.W.Frag} {S : Addr → Prop} {ow : Addr → Option Ow} {σ : L2.St} {H : Hp} {ρ : EN} {τ : List (V × W)} {i : Nat} {ds : List D} (R : RelS K B S ow σ H ρ τ) (h : gt ρ i = some (.o ds)) :
    ∃ a vs, σ[i]? = some (some (.ref a)) ∧ ow a = some (.slot i) ∧ H a = some (.lst vs) ∧ RpB K S B.z H vs ds := by
  obtain ⟨v, h1, a, vs, rfl, h2, h3, h4⟩ := R.sl i _ h
  exact ⟨a, vs, h1, h2, h3, h4⟩
def isOwn : Option W → Prop
  | some (.o _) => True
  | _ => False
theorem isOwn_at {w : Option W} (h : isOwn w) : ∃ ds, w = some (.o ds) := by
  unfold isOwn at h
  split at h
  · exact ⟨_, rfl⟩
  · exact h.elim
/-- x.append(e) -/
def rApp (i : Nat) (re : RE) : RE := fun ρ k => isOwn (gt ρ i) ∧ re ρ fun w ρ' => match gt ρ' i with
  | some (.o ds) => ds.length < sizeLine ∧ k (.v .non) (st ρ' i (some (.o (ds ++ [frz w]))))
  | _ => False
theorem RpB.snoc {K : PySem.W.Frag} {S : Addr → Prop} {z : Option (Addr × Addr)} {H : Hp} {vs : List V} {ds : List D} {v : V} {d : D} (h : RpB K S z H vs ds) (hv : Rp K S z H v d) (hl : ds.length < sizeLine) : RpB K S z H (vs ++ [v]) (ds ++ [d]) :=
  ⟨by rw [List.length_append, h.2.length]; exact hl, h.2.append (.cons hv .nil)⟩
theorem de_append1 (i : Nat) (hp : PE X (.Name y py) (tVar i)) (he : DE X B e te re) {apos : Pos} (hcall : PE X (.Call (.Attribute (.Name y py) "append" apos) [e] [] pos) (tBM X.K "list" rAppend (tVar i) (tCons te tNil))) :
    DE X B (.Call (.Attribute (.Name y py) "append" apos) [e] [] pos) (tBM X.K "list" rAppend (tVar i) (tCons te tNil)) (rApp i re) :=
  ⟨hcall, fun σ H ρ τ Q k R q f => by
    obtain ⟨S, ow, R0⟩ := id R
    obtain ⟨hi, q⟩ := q
    obtain ⟨ds0, hi⟩ := isOwn_at hi
    obtain ⟨a, vs, h1, h2, h3, h4⟩ := own_at R0 hi
    refine ⟨.ref a, h1, .inl ⟨rfl, _, SqL.of h3⟩, he.sim σ H ρ τ _ _ R q fun w ρ' v H' q' ⟨S1, ow1, R1⟩ => ?_⟩
    split at q'
    · rename_i ds e1
      obtain ⟨S2, ow2, R2, hv, _⟩ := R1.frzTop
      obtain ⟨b, us, g1, g2, g3, g4⟩ := own_at R2 e1
      rw [h1] at g1
      cases g1
      refine ⟨a, us, v, rfl, rfl, g3, by rw [g4.2.length]; exact q'.1, ?_⟩
      exact f _ _ _ _ q'.2 ⟨S2, ow2, (R2.writeSlot e1 h1 g2 g3 (g4.snoc hv q'.1)).push .non⟩
    · exact q'.elim⟩
/-- x.extend(e) -/
def rExt (i : Nat) (re : RE) : RE := fun ρ k => isOwn (gt ρ i) ∧ re ρ fun w ρ' => match gt ρ' i with
  | some (.o ds) => ∃ es, itM w = some es ∧ ds.length + es.length ≤ sizeLine ∧ k (.v .non) (st ρ' i (some (.o (ds ++ es))))
  | _ => False
theorem de_extend1 (i : Nat) (hp : PE X (.Name y py) (tVar i)) (he : DE X B e te re) {apos : Pos} (hcall : PE X (.Call (.Attribute (.Name y py) "extend" apos) [e] [] pos) (tBM X.K "list" rExtend (tVar i) (tCons te tNil))) :
    DE X B (.Call (.Attribute (.Name y py) "extend" apos) [e] [] pos) (tBM X.K "list" rExtend (tVar i) (tCons te tNil)) (rExt i re) :=
  ⟨hcall, fun σ H ρ τ Q k R q f => by
    obtain ⟨S, ow, R0⟩ := id R
    obtain ⟨hi, q⟩ := q
    obtain ⟨ds0, hi⟩ := isOwn_at hi
    obtain ⟨a, vs, h1, h2, h3, h4⟩ := own_at R0 hi
    refine ⟨.ref a, h1, .inl ⟨rfl, _, SqL.of h3⟩, he.sim σ H ρ τ _ _ R q fun w ρ' v H' q' ⟨S1, ow1, R1⟩ => ?_⟩
    split at q'
    · rename_i ds e1
      obtain ⟨es, ee, hl, q'⟩ := q'
      obtain ⟨b2, us2, rfl, k3, k4⟩ := R1.top.lstM ee
      obtain ⟨b, us, g1, g2, g3, g4⟩ := own_at R1.pop e1
      rw [h1] at g1
      cases g1
      refine ⟨a, b2, us, us2, rfl, rfl, g3, k3, by rw [g4.2.length, k4.2.length]; exact hl, ?_⟩
      exact f _ _ _ _ q' ⟨S1, ow1, (R1.pop.writeSlot e1 h1 g2 g3 ⟨by rw [List.length_append, g4.2.length, k4.2.length]; exact hl, g4.2.append k4.2⟩).push .non⟩
    · exact q'.elim⟩
/-- x.pop() -/
def rPop0 (i : Nat) : RE := fun ρ k => match gt ρ i with
  | some (.o ds) => ∃ d, ds[ds.length - 1]? = some d ∧ k (.v d) (st ρ i (some (.o ds.dropLast)))
  | _ => False
theorem Kp.write {S : Addr → Prop} {H : Hp} {a : Addr} {u u' : HO} (hS : ¬ S a) (hh : H a = some u) (hu : ¬ imm u) : Kp S H (upd H a u') := fun b o e h => by
  rw [upd_ne]
  · exact e
  · intro q
    rcases h with h | h
    · exact hS (q ▸ h)
    · rw [q, hh] at e
      cases e
      exact hu h
theorem own_nS {K : PySem.W.Frag} {S : Addr → Prop} {ow : Addr → Option Ow} {σ : L2.St} {H : Hp} {ρ : EN} {τ : List (V × W)} (R : RelS K B S ow σ H ρ τ) {a : Addr} {q : Ow} (h : ow a = some q) : ¬ S a := fun s => by
  have := R.so a s
  rw [h] at this
  cases this
theorem pop_sim (i : Nat) (σ : L2.St) (H : Hp) (ρ : EN) (τ : List (V × W)) (Q : VK) (k : W → EN → Prop) (R : Rel X.K B σ H ρ τ) (q : rPop0 i ρ k) (f : ∀ w ρ' v H', k w ρ' → Rel X.K B σ H' ρ' ((v, w) :: τ) → Q v H') : tBM0 X.K "list" rPop (tVar i) σ H Q := by
  obtain ⟨S, ow, R⟩ := R
  unfold rPop0 at q
  split at q
  · rename_i ds e
    obtain ⟨d, hd, q⟩ := q
    obtain ⟨a, vs, h1, h2, h3, h4⟩ := own_at R e
    obtain ⟨v, hv, rv⟩ := h4.2.get hd
    refine ⟨.ref a, h1, .inl ⟨rfl, _, SqL.of h3⟩, a, vs, v, rfl, rfl, h3, by rw [h4.2.length]; exact hv, ?_⟩
    have rv' : Rp X.K S B.z (upd H a (.lst vs.dropLast)) v d := Rp.mono (fun _ s => s) (Kp.write (own_nS R h2) h3 (fun z => z)) rv
    exact f _ _ _ _ q ⟨S, ow, (R.writeSlot e h1 h2 h3 ⟨by rw [List.length_dropLast]; exact Nat.le_trans (Nat.sub_le _ _) h4.1, h4.2.dropLast⟩).push rv'⟩
  · exact q.elim
theorem de_pop0 (i : Nat) {apos : Pos} (hp : PE X (.Name y py) (tVar i)) (hcall : PE X (.Call (.Attribute (.Name y py) "pop" apos) [] [] pos) (tBM0 X.K "list" rPop (tVar i))) : DE X B (.Call (.Attribute (.Name y py) "pop" apos) [] [] pos) (tBM0 X.K "list" rPop (tVar i)) (rPop0 i) :=
  ⟨hcall, pop_sim i⟩
/-- x.pop(e) -/
def rPop1 (i : Nat) (re : RE) : RE := fun ρ k => isOwn (gt ρ i) ∧ re ρ fun w ρ' => match gt ρ' i, w with
  | some (.o ds), .v (.int j) => ∃ n d, -(2 ^ 63) ≤ j ∧ j < 2 ^ 63 ∧ seqIndex? j ds.length = some n ∧ ds[n]? = some d ∧ k (.v d) (st ρ' i (some (.o (ds.eraseIdx n))))
  | _, _ => False
theorem de_pop1 (i : Nat) (hp : PE X (.Name y py) (tVar i)) (he : DE X B e te re) {apos : Pos} (hcall : PE X (.Call (.Attribute (.Name y py) "pop" apos) [e] [] pos) (tBM X.K "list" rPopAt (tVar i) (tCons te tNil))) :
    DE X B (.Call (.Attribute (.Name y py) "pop" apos) [e] [] pos) (tBM X.K "list" rPopAt (tVar i) (tCons te tNil)) (rPop1 i re) :=
  ⟨hcall, fun σ H ρ τ Q k R q f => by
    obtain ⟨S, ow, R0⟩ := id R
    obtain ⟨hi, q⟩ := q
    obtain ⟨ds0, hi⟩ := isOwn_at hi
    obtain ⟨a, vs, h1, h2, h3, h4⟩ := own_at R0 hi
    refine ⟨.ref a, h1, .inl ⟨rfl, _, SqL.of h3⟩, he.sim σ H ρ τ _ _ R q fun w ρ' v H' q' ⟨S1, ow1, R1⟩ => ?_⟩
    split at q'
    · rename_i ds j e1 R1
      obtain ⟨n, d, c1, c2, c3, c4, q'⟩ := q'
      have ev := R1.top.int
      subst ev
      obtain ⟨b, us, g1, g2, g3, g4⟩ := own_at R1.pop e1
      rw [h1] at g1
      cases g1
      obtain ⟨u, hu, ru⟩ := g4.2.get c4
      refine ⟨a, us, j, n, u, rfl, rfl, g3, c1, c2, by rw [g4.2.length]; exact c3, hu, ?_⟩
      have ru' : Rp X.K S1 B.z (upd H' a (.lst (us.eraseIdx n))) u d := Rp.mono (fun _ s => s) (Kp.write (own_nS R1 g2) g3 (fun z => z)) ru
      exact f _ _ _ _ q' ⟨S1, ow1, (R1.pop.writeSlot e1 h1 g2 g3 ⟨Nat.le_trans (List.length_eraseIdx_le us n) g4.1, g4.2.eraseIdx n⟩).push ru'⟩
    · exact q'.elim⟩
end
/-! ### comparisons as tests -/
section
variable {X : Cx} {B : Bs} {a b e : Expr} {ta tb te : TE} {ra rb re : RE} {pos : Pos}
theorem test_sim {r : R2} {g : G2} (h : Sim2 X.K r g) (ha : DE X B a ta ra) (hb : DE X B b tb rb) (σ : L2.St) (H : Hp) (ρ : EN) (τ : List (V × W)) (Q : Bool → Hp → Prop) (k : Bool → EN → Prop) (R : Rel X.K B σ H ρ τ) (q : rVal (rBin g ra rb) ρ k)
    (f : ∀ b ρ' H', k b ρ' → Rel X.K B σ H' ρ' τ → Q b H') : tTest (tOp r ta tb) σ H Q :=
  sim_op h ha hb σ H ρ τ _ _ R q fun w ρ1 v H1 q1 ⟨S, ow, R1⟩ => by
    split at q1
    · have e := R1.top.bl
      subst e
      exact ⟨_, rfl, f _ _ _ q1 ⟨S, ow, R1.pop⟩⟩
    · exact q1.elim
theorem dt_cmp {op : CmpOp} {r : R2} {g : G2} (ho : OpR X (compareOp op) r) (h : Sim2 X.K r g) (ha : DE X B a ta ra) (hb : DE X B b tb rb) (hm : behindInMarks op b = false) : DT X B (.Compare a [op] [b] pos) (tTest (tOp r ta tb)) (rVal (rBin g ra rb)) :=
  ⟨pt_cmpR ho ha.pe hb.pe hm, test_sim h ha hb⟩
theorem dt_eq (hu : X.A.units + 64 < cLine) (ha : DE X B a ta ra) (hb : DE X B b tb rb) : DT X B (.Compare a [.Eq] [b] pos) (tTest (tOp (rEqD X.K) ta tb)) (rVal (rBin gEq ra rb)) := dt_cmp (op_eqD hu) sim_eq ha hb (nomark _)
theorem dt_ne (hu : X.A.units + 64 < cLine) (ha : DE X B a ta ra) (hb : DE X B b tb rb) : DT X B (.Compare a [.NotEq] [b] pos) (tTest (tOp (rNeD X.K) ta tb)) (rVal (rBin gNe ra rb)) := dt_cmp (op_neD hu) sim_ne ha hb (nomark _)
theorem dt_lt (ha : DE X B a ta ra) (hb : DE X B b tb rb) : DT X B (.Compare a [.Lt] [b] pos) (tTest (tOp (rI0 fun i j => .bl (decide (i < j))) ta tb)) (rVal (rBin gLt ra rb)) := dt_cmp op_lt sim_lt ha hb (nomark _)
theorem dt_le (ha : DE X B a ta ra) (hb : DE X B b tb rb) : DT X B (.Compare a [.LtE] [b] pos) (tTest (tOp (rI0 fun i j => .bl (decide (i ≤ j))) ta tb)) (rVal (rBin gLe ra rb)) := dt_cmp op_le sim_le ha hb (nomark _)
theorem dt_gt (ha : DE X B a ta ra) (hb : DE X B b tb rb) : DT X B (.Compare a [.Gt] [b] pos) (tTest (tOp (rI0 fun i j => .bl (decide (j < i))) ta tb)) (rVal (rBin gGt ra rb)) := dt_cmp op_gt sim_gt ha hb (nomark _)
theorem dt_ge (ha : DE X B a ta ra) (hb : DE X B b tb rb) : DT X B (.Compare a [.GtE] [b] pos) (tTest (tOp (rI0 fun i j => .bl (decide (j ≤ i))) ta tb)) (rVal (rBin gGe ra rb)) := dt_cmp op_ge sim_ge ha hb (nomark _)
theorem dt_isN {j pos'} (ha : DE X B a ta ra) : DT X B (.Compare a [.Is] [.Constant .none j pos'] pos) (tB (tIsN ta)) (rVal (rIsN ra)) :=
  ⟨pt_cmp (pc_isN ha.pe) rfl, fun σ H ρ τ Q k R q f => ha.sim σ H ρ τ _ _ R q fun w ρ' v H' q' ⟨S, ow, R'⟩ => by
    rw [isN_ok R'.top]
    exact ⟨_, rfl, f _ _ H' q' ⟨S, ow, R'.pop⟩⟩⟩
theorem dt_notN {j pos'} (ha : DE X B a ta ra) : DT X B (.Compare a [.IsNot] [.Constant .none j pos'] pos) (tB (tNotN ta)) (rVal (rNotN ra)) :=
  ⟨pt_cmp (pc_notN ha.pe) rfl, fun σ H ρ τ Q k R q f => ha.sim σ H ρ τ _ _ R q fun w ρ' v H' q' ⟨S, ow, R'⟩ => by
    rw [isN_ok R'.top]
    exact ⟨_, rfl, f _ _ H' q' ⟨S, ow, R'.pop⟩⟩⟩
theorem sim_isB {K : PySem.W.Frag} : Sim2 K (fun x y H Q => ∃ a b, x = .bl a ∧ y = .bl b ∧ Q (.bl (decide (a = b))) H) gIsB := fun B S ow σ H ρ τ o o' x y wx wy Q k R hx hy h f => by
  unfold gIsB at h
  split at h
  · exact ⟨_, _, hx.bl, hy.bl, f _ _ H h ⟨S, ow, R.push (.bl _)⟩⟩
  · exact h.elim
theorem sim_notB {K : PySem.W.Frag} : Sim2 K (fun x y H Q => ∃ a b, x = .bl a ∧ y = .bl b ∧ Q (.bl (!decide (a = b))) H) gNotB := fun B S ow σ H ρ τ o o' x y wx wy Q k R hx hy h f => by
  unfold gNotB at h
  split at h
  · exact ⟨_, _, hx.bl, hy.bl, f _ _ H h ⟨S, ow, R.push (.bl _)⟩⟩
  · exact h.elim
theorem dt_isB (ha : DE X B a ta ra) (hb : DE X B b tb rb) : DT X B (.Compare a [.Is] [b] pos) (tTest (tOp (fun x y H Q => ∃ a b, x = .bl a ∧ y = .bl b ∧ Q (.bl (decide (a = b))) H) ta tb)) (rVal (rBin gIsB ra rb)) := dt_cmp op_is_bl sim_isB ha hb (nomark _)
theorem dt_notB (ha : DE X B a ta ra) (hb : DE X B b tb rb) : DT X B (.Compare a [.IsNot] [b] pos) (tTest (tOp (fun x y H Q => ∃ a b, x = .bl a ∧ y = .bl b ∧ Q (.bl (!decide (a = b))) H) ta tb)) (rVal (rBin gNotB ra rb)) := dt_cmp op_isnot_bl sim_notB ha hb (nomark _)
/-- n.bit_length() -/
def gBits : G1 := fun w k => match w with
  | .v (.int i) => k (.v (.int (Builtin.Int.intBits i : Nat)))
  | _ => False
theorem de_m_bit_length {apos : Pos} (ha : DE X B a ta ra) (hbase : attributeBase a "bit_length" X.env (eval a X.env) = eval a X.env := by rfl) (hline : (apos.endLine == pos.line) = true := by rfl) : DE X B (.Call (.Attribute a "bit_length" apos) [] [] pos) (tBits ta) (rUn gBits ra) :=
  ⟨pe_bits ha.pe hbase hline, fun σ H ρ τ Q k R q f => ha.sim σ H ρ τ _ _ R q fun w ρ' v H' q' ⟨S, ow, R'⟩ => by
    unfold gBits at q'
    split at q'
    · exact ⟨_, R'.top.int, f _ _ _ _ q' ⟨S, ow, R'.pop.push (.int _)⟩⟩
    · exact q'.elim⟩
/-- a whole number of the module -/
theorem de_gint {x : Str} {n : Int} (hm : ∃ t, X.mg x = some (.int n t)) (hg : Gl X x := by rfl) (hd : (x == ("__debug__" : Str)) = false := by decide) : DE X B (.Name x pos) (tC (.int n)) (rC (.int n)) := by
  obtain ⟨t, hm⟩ := hm
  exact de_c (pe_glob hg hm ⟨t, rfl⟩ hd) fun _ _ _ => .int n
end
end DL

set_option maxHeartbeats 1000000
namespace DL
open PySem PySem.Spec PyProof.Rows L2
section
variable {X : Cx} {B : Bs} {a b e : Expr} {ta tb te : TE} {ra rb re : RE} {pos p p2 : Pos} {y : Str} {py : Pos}
/-! ### x[i] = e, x a list of its own -/
def sgIx (i : Nat) (re : RE) : D → EN → (EN → Prop) → Prop := fun d ρ k => isOwn (gt ρ i) ∧ re ρ fun w ρ' => match gt ρ' i, w with
  | some (.o ds), .v (.int j) => ∃ n, ixN ds.length j = some n ∧ k (st ρ' i (some (.o (ds.set n d))))
  | _, _ => False
theorem dg_ix (i : Nat) (hp : PE X (.Name y py) (tVar i)) (he : DE X B e te re)
    (ha : ∀ v, assign (.Subscript (.Name y py) e pos) X.env v = (do
      let ov ← holding [v] (eval (.Name y py) X.env)
      let iv ← holding [v, ov] (eval e X.env)
      standAt pos
      holding [v, ov, iv] (setItem ov iv v)
      release [v, ov, iv] []) := by intro _; rfl) : DG X B (.Subscript (.Name y py) e pos) (L2.gSub (tVar i) te rSetL) (sgIx i re) :=
  ⟨pg_sub hp he.pe set_list ha, fun v d σ H ρ τ Q k R q f => by
    obtain ⟨S, ow, R0⟩ := id R
    obtain ⟨hi, q⟩ := q
    obtain ⟨ds0, hi⟩ := isOwn_at hi
    obtain ⟨a, vs, h1, h2, h3, h4⟩ := own_at R0 hi
    refine ⟨.ref a, h1, he.sim σ H ρ _ _ _ R q fun w ρ' u H' q' R1 => ?_⟩
    split at q'
    · rename_i ds j e1
      obtain ⟨S1, ow1, R1⟩ := R1
      obtain ⟨n, c1, q'⟩ := q'
      have ev := R1.top.int
      subst ev
      obtain ⟨b, us, g1, g2, g3, g4⟩ := own_at R1.pop e1
      rw [h1] at g1
      cases g1
      refine ⟨a, us, j, n, rfl, rfl, g3, by rw [g4.2.length]; exact c1, ?_⟩
      exact f _ _ _ q' ⟨S1, ow1, R1.pop.pop.writeSlot e1 h1 g2 g3 ⟨by rw [List.length_set]; exact g4.1, g4.2.set n R1.pop.top⟩⟩
    · exact q'.elim⟩
/-! ### slices -/
abbrev RO := EN → (Option Int → EN → Prop) → Prop
structure DO (X : Cx) (B : Bs) (e : Option Expr) (t : TO) (r : RO) : Prop where
  po : PO X e t
  sim : ∀ (σ : L2.St) (H : Hp) (ρ : EN) (τ : List (V × W)) (Q : Option Int → Hp → Prop) (k : Option Int → EN → Prop), Rel X.K B σ H ρ τ → r ρ k → (∀ b ρ' H', k b ρ' → Rel X.K B σ H' ρ' τ → Q b H') → t σ H Q
def rNoPart : RO := fun ρ k => k none ρ
def rPart (re : RE) : RO := fun ρ k => re ρ fun w ρ' => match w with
  | .v (.int i) => k (some i) ρ'
  | _ => False
theorem do_none : DO X B none tNoPart rNoPart := ⟨po_none, fun σ H ρ τ Q k R q f => f _ _ _ q R⟩
theorem do_some (he : DE X B e te re) : DO X B (some e) (tPart te) (rPart re) :=
  ⟨po_some he.pe, fun σ H ρ τ Q k R q f => he.sim σ H ρ τ _ _ R q fun w ρ' v H' q' R' => by
    obtain ⟨S, ow, R'⟩ := R'
    split at q'
    · exact ⟨_, R'.top.int, f _ _ _ q' ⟨S, ow, R'.pop⟩⟩
    · exact q'.elim⟩
def cut {α : Type} (xs : List α) (lo hi : Option Int) : List α := (xs.drop (HT.sIx xs.length 0 lo)).take (HT.sIx xs.length xs.length hi - HT.sIx xs.length 0 lo)
theorem RpA.cut {K : PySem.W.Frag} {S : Addr → Prop} {z : Option (Addr × Addr)} {H : Hp} {vs : List V} {ds : List D} (r : RpA K S z H vs ds) (lo hi : Option Int) : RpA K S z H (cutV vs lo hi) (DL.cut ds lo hi) := by
  unfold cutV DL.cut
  rw [r.length]
  exact (r.drop _).take _
theorem cut_whole {α : Type} {xs : List α} {lo hi : Option Int} (h1 : HT.sIx xs.length 0 lo = 0) (h2 : HT.sIx xs.length xs.length hi = xs.length) : DL.cut xs lo hi = xs := by
  unfold DL.cut
  rw [h1, h2]
  simp
def gCut (w : W) (lo hi : Option Int) (k : W → Prop) : Prop := match itL w with
  | some ds => k (.o (DL.cut ds lo hi))
  | none => match w with
    | .v (.tup ds) => k (.v (.tup (DL.cut ds lo hi)))
    | _ => False
def rSl (re : RE) (rl ru : RO) : RE := fun ρ k => re ρ fun w ρ1 => rl ρ1 fun lo ρ2 => ru ρ2 fun hi ρ3 => gCut w lo hi fun w' => k w' ρ3
abbrev rSlB (K : PySem.W.Frag) : V → Option Int → Option Int → Hp → VK → Prop := fun x lo hi H Q => rSlL K x lo hi H Q ∨ rSlA K x lo hi H Q
theorem cut_sim {K : PySem.W.Frag} {S : Addr → Prop} {ow : Addr → Option Ow} {σ : L2.St} {H : Hp} {ρ : EN} {τ : List (V × W)} {o : Ow} {x : V} {w : W} {lo hi : Option Int} {Q : VK} {k : W → Prop} (R : RelS K B S ow σ H ρ τ) (hx : Rw K S B.z H ow o x w) (q : gCut w lo hi k)
    (f : ∀ w v H', k w → Rel K B σ H' ρ ((v, w) :: τ) → Q v H') : rSlB K x lo hi H Q := by
  unfold gCut at q
  split at q
  · rename_i ds e
    obtain ⟨a, vs, rfl, h1, l, r⟩ := hx.lst e
    exact .inl ⟨a, vs, rfl, h1, fun p hp => f _ _ _ q ⟨S, _, R.newLst hp ⟨Nat.le_trans (cutV_length _ _ _) l, r.cut lo hi⟩⟩⟩
  · split at q
    · rename_i ds _
      obtain ⟨a, vs, rfl, h1, l, r⟩ := hx.tup
      refine .inr ⟨a, vs, rfl, h1, fun hw => ?_, fun _ p hp => f _ _ _ q ⟨S, ow, R.newTup hp (Nat.le_trans (cutV_length _ _ _) l) (r.cut lo hi)⟩⟩
      rw [r.length] at hw
      rw [cut_whole hw.1 hw.2] at q
      exact f _ _ _ q ⟨S, ow, R.push hx⟩
    · exact q.elim
variable {lo hi : Option Expr} {tl th : TO} {rl rh : RO}
theorem de_slice (he : DE X B e te re) (hl : DO X B lo tl rl) (hu : DO X B hi th rh) : DE X B (.Subscript e (.Slice lo hi none p2) pos) (tSl (rSlB X.K) te tl th) (rSl re rl rh) :=
  ⟨pe_slice (sl_list.or sl_tupA) he.pe hl.po hu.po, fun σ H ρ τ Q k R q f => he.sim σ H ρ τ _ _ R q fun w ρ1 v H1 q1 R1 => hl.sim _ _ _ _ _ _ R1 q1 fun lo ρ2 H2 q2 R2 => hu.sim _ _ _ _ _ _ R2 q2 fun hi ρ3 H3 q3 ⟨S, ow, R3⟩ =>
    cut_sim R3.pop R3.top q3 fun w' v' H' q' R' => f _ _ _ _ q' R'⟩
/-- .. of a name that keeps its list -/
def rSlP (i : Nat) (rl ru : RO) : RE := fun ρ k => (gt ρ i).isSome = true ∧ rl ρ fun lo ρ2 => ru ρ2 fun hi ρ3 => match gt ρ3 i with
  | some w => gCut w lo hi fun w' => k w' ρ3
  | none => False
theorem de_sliceP (i : Nat) (hp : PE X (.Name y py) (tVar i)) (hl : DO X B lo tl rl) (hu : DO X B hi th rh) : DE X B (.Subscript (.Name y py) (.Slice lo hi none p2) pos) (tSl (rSlB X.K) (tVar i) tl th) (rSlP i rl rh) :=
  ⟨pe_slice (sl_list.or sl_tupA) hp hl.po hu.po, fun σ H ρ τ Q k R q f => by
    obtain ⟨S0, ow0, R0⟩ := id R
    cases e : gt ρ i with
    | none => have := q.1; rw [e] at this; cases this
    | some w0 =>
      obtain ⟨v, hv, _⟩ := R0.sl i w0 e
      refine ⟨v, hv, hl.sim _ _ _ _ _ _ R q.2 fun lo ρ2 H2 q2 R2 => hu.sim _ _ _ _ _ _ R2 q2 fun hi ρ3 H3 q3 ⟨S, ow, R3⟩ => ?_⟩
      split at q3
      · rename_i w e3
        obtain ⟨v', h1, h2⟩ := R3.sl i w e3
        rw [hv] at h1
        cases h1
        exact cut_sim R3 h2 q3 fun w' v' H' q' R' => f _ _ _ _ q' R'
      · exact q3.elim⟩
/-! ### the store -/
theorem Rp.sto_at {K : PySem.W.Frag} {S : Addr → Prop} {z : Option (Addr × Addr)} {H : Hp} {v : V} (h : Rp K S z H v .sto) : ∃ a c, v = .ref a ∧ z = some (a, c) := by
  cases h with
  | sto h => exact ⟨_, _, rfl, h⟩
theorem sto_at {K : PySem.W.Frag} {S : Addr → Prop} {ow : Addr → Option Ow} {σ : L2.St} {H : Hp} {ρ : EN} {τ : List (V × W)} {i : Nat} (R : RelS K B S ow σ H ρ τ) (h : gt ρ i = some (.v .sto)) :
    ∃ a c, σ[i]? = some (some (.ref a)) ∧ B.z = some (a, c) ∧ ∃ i j k l : Int, H a = some (.lst [.ref c, .int i, .int j, .int k, .int l]) ∧ 0 ≤ i ∧ ∃ cells, Rp K S B.z H (.ref c) (.lst cells) ∧ ∀ d ∈ cells, ∃ p q : Int, d = .tup [.int p, .int q] := by
  obtain ⟨v, h1, h2⟩ := R.sl i _ h
  obtain ⟨a, c, rfl, hz⟩ := Rp.sto_at h2
  exact ⟨a, c, h1, hz, R.zo a c hz⟩
def rSto (i : Nat) (n : Int) : RE := fun ρ k => gt ρ i = some (.v .sto) ∧ 1 ≤ n ∧ n ≤ 4 ∧ ∀ m : Int, (n = 1 → 0 ≤ m) → k (.v (.int m)) ρ
/-- store[n] -/
theorem de_sto (i : Nat) (hp : PE X (.Name y py) (tVar i)) {n : Int} {j} {pn : Pos} : DE X B (.Subscript (.Name y py) (.Constant (.int n) j pn) pos) (tOp (rIx X.K) (tVar i) (tC (.int n))) (rSto i n) :=
  ⟨pe_ix ix_seq hp pe_int (fun _ _ => rfl), fun σ H ρ τ Q k ⟨S, ow, R⟩ q f => by
    obtain ⟨h, n1, n4, q⟩ := q
    obtain ⟨a, c, h1, h2, i1, j1, k1, l1, h3, h4, _⟩ := sto_at R h
    have go : ∀ m : Int, L2.atI [V.ref c, .int i1, .int j1, .int k1, .int l1] n = some (.int m) → (n = 1 → 0 ≤ m) → tOp (rIx X.K) (tVar i) (tC (.int n)) σ H Q := fun m hm h0 =>
      ⟨.ref a, h1, .inl ⟨a, _, n, .int m, rfl, rfl, SqL.of h3, hm, f _ _ _ _ (q m h0) ⟨S, ow, R.push (.int m)⟩⟩⟩
    have : n = 1 ∨ n = 2 ∨ n = 3 ∨ n = 4 := by omega
    rcases this with rfl | rfl | rfl | rfl
    · exact go i1 rfl fun _ => h4
    · exact go j1 rfl fun z => by omega
    · exact go k1 rfl fun z => by omega
    · exact go l1 rfl fun z => by omega⟩
def rStoSet (i : Nat) (n : Int) (re : RE) : RS := fun k ρ => gt ρ i = some (.v .sto) ∧ 1 ≤ n ∧ n ≤ 4 ∧ re ρ fun w ρ' => gt ρ' i = some (.v .sto) ∧ match w with
  | .v (.int m) => (n = 1 → 0 ≤ m) ∧ k.nx ρ'
  | _ => False
/-- the store's list is written -/
theorem RelS.writeSto {K : PySem.W.Frag} {S : Addr → Prop} {ow : Addr → Option Ow} {σ : L2.St} {H : Hp} {ρ : EN} {τ : List (V × W)} (R : RelS K B S ow σ H ρ τ) {a c : Addr} (hz : B.z = some (a, c)) {i j k l : Int} (h0 : 0 ≤ i) : RelS K B S ow σ (upd H a (.lst [.ref c, .int i, .int j, .int k, .int l])) ρ τ := by
  obtain ⟨i0, j0, k0, l0, hh, _, cells, hc1, hc2⟩ := R.zo a c hz
  have neS : ∀ b, S b → b ≠ a := fun b s e => R.sz a c hz (e ▸ s)
  have kk : Kp S H (upd H a (.lst [.ref c, .int i, .int j, .int k, .int l])) := fun b o e h => by
    rw [upd_ne]
    · exact e
    · intro q
      rcases h with h | h
      · exact neS b h q
      · rw [q, hh] at e
        cases e
        exact h
  have neO : ∀ b q, ow b = some q → b ≠ a := fun b q e z => by
    have := R.oz a c hz
    rw [z, this] at e
    cases e
  have ko : ∀ {q : Ow} {v : V} {w : W}, Rw K S B.z H ow q v w → Rw K S B.z (upd H a (.lst [.ref c, .int i, .int j, .int k, .int l])) ow q v w := fun {q v w} h =>
    Rw.mono (fun _ s => s) kk (fun b e => ⟨e, fun u hu => by rw [upd_ne (neO b q e)]; exact hu⟩) h
  have kt : ∀ {t : List (V × W)}, Tok K S B.z H ow t → Tok K S B.z (upd H a (.lst [.ref c, .int i, .int j, .int k, .int l])) ow t := by
    intro t
    induction t with
    | nil => intro _; trivial
    | cons x t ih => intro h; exact ⟨ko h.1, ih h.2⟩
  exact { R with
    sh := fun b s => by
      obtain ⟨o, e⟩ := R.sh b s
      exact ⟨o, by rw [upd_ne (neS b s)]; exact e⟩
    fr := fun b o e n => by
      rw [upd_ne]
      · exact R.fr b o e n
      · intro q
        rw [q] at n
        exact n c hz
    zo := fun a' c' e => by
      rw [hz] at e
      cases e
      exact ⟨i, j, k, l, upd_same, h0, cells, Rp.mono (fun _ s => s) kk hc1, hc2⟩
    sl := fun i' w e => by
      obtain ⟨v, h1, h2⟩ := R.sl i' w e
      exact ⟨v, h1, ko h2⟩
    tm := kt R.tm }
/-- store[n] = e -/
theorem ds_sto (i : Nat) (hp : PE X (.Name y py) (tVar i)) {n : Int} {j} {pn pa : Pos} (he : DE X B e te re)
    (ha : ∀ v, assign (.Subscript (.Name y py) (.Constant (.int n) j pn) pa) X.env v = (do
      let ov ← holding [v] (eval (.Name y py) X.env)
      let iv ← holding [v, ov] (eval (.Constant (.int n) j pn) X.env)
      standAt pa
      holding [v, ov, iv] (setItem ov iv v)
      release [v, ov, iv] []) := by intro _; rfl)
    (hs : swapsWithSole [.Subscript (.Name y py) (.Constant (.int n) j pn) pa] e pos.line X.env = pure false := by rfl) (hw : swappedStores [.Subscript (.Name y py) (.Constant (.int n) j pn) pa] e X.env = pure none := by rfl)
    (h1 : (assignEach [.Subscript (.Name y py) (.Constant (.int n) j pn) pa] X.env).map (·.2) = [assign (.Subscript (.Name y py) (.Constant (.int n) j pn) pa) X.env] := by rfl) :
    DS X B (.Assign [.Subscript (.Name y py) (.Constant (.int n) j pn) pa] e pos) (tAsg te (L2.gSub (tVar i) (tC (.int n)) rSetL)) (rStoSet i n re) :=
  ⟨ps_asg he.pe (pg_sub hp pe_int set_list ha) hs hw h1, fun τ D k E σ H ρ R q => he.sim σ H ρ τ _ _ R q.2.2.2 fun w ρ' v H' q' R' => by
    obtain ⟨_, n1, n4, _⟩ := q
    obtain ⟨hg, q'⟩ := q'
    split at q'
    · rename_i m
      obtain ⟨S, ow, R'⟩ := R'
      obtain ⟨hm, q'⟩ := q'
      have ev := R'.top.int
      subst ev
      obtain ⟨a, c, g1, g2, i1, j1, k1, l1, g3, g4, _⟩ := sto_at R'.pop hg
      refine ⟨.ref a, g1, ?_⟩
      have go : ∀ (jj : Nat) (i2 j2 k2 l2 : Int), ixN 5 n = some jj → [V.ref c, .int i1, .int j1, .int k1, .int l1].set jj (.int m) = [V.ref c, .int i2, .int j2, .int k2, .int l2] → 0 ≤ i2 → rSetL (.ref a) (.int n) (.int m) H' fun H3 => D.nx σ H3 := fun jj i2 j2 k2 l2 hx hs h0 =>
        ⟨a, _, n, jj, rfl, rfl, g3, hx, by rw [hs]; exact E.nx _ _ _ ⟨S, ow, R'.pop.writeSto g2 h0⟩ q'⟩
      have : n = 1 ∨ n = 2 ∨ n = 3 ∨ n = 4 := by omega
      rcases this with rfl | rfl | rfl | rfl
      · exact go 1 m j1 k1 l1 rfl rfl (hm rfl)
      · exact go 2 i1 m k1 l1 rfl rfl g4
      · exact go 3 i1 j1 m l1 rfl rfl g4
      · exact go 4 i1 j1 k1 m rfl rfl g4
    · exact q'.elim⟩
/-- if store[1] < len(store[0]): pair = store[0][store[1]] .. -/
def rStoIf (i j : Nat) (rb : RS) : RS := fun k ρ => gt ρ i = some (.v .sto) ∧ (∀ p q : Int, rb k (st ρ j (some (.v (.tup [.int p, .int q]))))) ∧ k.nx ρ
theorem ds_stoIf (i j : Nat) {x : Str} {p1 p2 p3 p4 p5 p6 p7 p10 p11 px : Pos} {j1 j2 j3 j4} {body : List Stmt} {ts : TS} {rS : RS} {pos : Pos} (hp : ∀ p, PE X (.Name y p) (tVar i)) (hN : X.N.Nodup) (hi : X.N[j]? = some x) (hx : Loc X.env.scope x) (hb : DSs X B body ts rS)
    (hlen : PE X (.Call (.Name "len" p1) [.Subscript (.Name y p2) (.Constant (.int 0) j1 p3) p4] [] p5) (tCB (tLenA X.K) (tCons (tOp (rIx X.K) (tVar i) (tC (.int 0))) tNil)))
    (hf : X.fn x = true ∨ X.env.scope.names.lookup x = some .local := by first | exact .inl rfl | exact .inr rfl | assumption) {q1 q2 q3 q4 q5 q6 q7 q8 : Pos} (hss : swapsWith (.Subscript (.Subscript (.Name y q1) (.Constant (.int 0) j2 q2) q3) (.Subscript (.Name y q4) (.Constant (.int 1) j3 q5) q6) q7) (some (.Name x px)) q8.line X.env = pure false := by rfl) :
    DS X B (.If (.Compare (.Subscript (.Name y p10) (.Constant (.int 1) j4 p11) p6) [.Lt] [.Call (.Name "len" p1) [.Subscript (.Name y p2) (.Constant (.int 0) j1 p3) p4] [] p5] p7)
      (.Assign [.Name x px] (.Subscript (.Subscript (.Name y q1) (.Constant (.int 0) j2 q2) q3) (.Subscript (.Name y q4) (.Constant (.int 1) j3 q5) q6) q7) q8 :: body) [] pos)
      (tIfS (tTest (tOp (rI0 fun i j => .bl (decide (i < j))) (tOp (rIx X.K) (tVar i) (tC (.int 1))) (tCB (tLenA X.K) (tCons (tOp (rIx X.K) (tVar i) (tC (.int 0))) tNil))))
        (tSeq (tAsg (tOp (rIx X.K) (tOp (rIx X.K) (tVar i) (tC (.int 0))) (tOp (rIx X.K) (tVar i) (tC (.int 1)))) (gName j)) ts) tNext) (rStoIf i j rS) :=
  ⟨ps_if (pt_cmpR op_lt (pe_ix ix_seq (hp _) pe_int (fun _ _ => rfl)) hlen (nomark _)) (pss_cons (ps_set hN hi hx (pe_ix ix_seq (pe_ix ix_seq (hp _) pe_int (fun _ _ => rfl)) (pe_ix ix_seq (hp _) pe_int (fun _ _ => rfl)) (fun _ _ => rfl)) hss hf) hb.ps) pss_nil,
    fun τ D k E σ H ρ ⟨S, ow, R⟩ q => by
      obtain ⟨hg, qa, qb⟩ := q
      obtain ⟨a, c, g1, g2, i1, j1, k1, l1, g3, g4, cells, hc, hcs⟩ := sto_at R hg
      have hc' : ∃ vs, H c = some (.lst vs) ∧ RpA X.K S B.z H vs cells := by
        cases hc with
        | lst _ e _ r => exact ⟨_, e, r⟩
      obtain ⟨vs, hcv, rc⟩ := hc'
      refine ⟨.ref a, g1, .inl ⟨a, _, 1, .int i1, rfl, rfl, SqL.of g3, rfl, ?_⟩⟩
      refine ⟨.ref a, g1, .inl ⟨a, _, 0, .ref c, rfl, rfl, SqL.of g3, rfl, ?_⟩⟩
      refine .inl ⟨c, vs, rfl, .inl (SqL.of hcv), ?_⟩
      refine ⟨i1, vs.length, rfl, rfl, _, rfl, ?_⟩
      by_cases hlt : i1 < (vs.length : Int)
      · rw [show decide (i1 < (vs.length : Int)) = true from by simpa using hlt]
        show tSeq (tAsg _ _) ts D σ H
        refine ⟨.ref a, g1, .inl ⟨a, _, 0, .ref c, rfl, rfl, SqL.of g3, rfl, ?_⟩⟩
        refine ⟨.ref a, g1, .inl ⟨a, _, 1, .int i1, rfl, rfl, SqL.of g3, rfl, ?_⟩⟩
        have hn : i1.toNat < vs.length := by omega
        have hat : L2.atI vs i1 = some vs[i1.toNat] := by
          unfold L2.atI ixN
          rw [if_pos g4, if_pos hlt]
          simp
        obtain ⟨d, hd, rd⟩ := rc.getV (List.getElem?_eq_getElem hn)
        obtain ⟨p, q, rfl⟩ := hcs d (List.mem_of_getElem? hd)
        refine .inl ⟨c, vs, i1, _, rfl, rfl, SqL.of hcv, hat, ?_⟩
        obtain ⟨ow', R2⟩ := (R.push rd).toSlot (i := j)
        exact hb.sim τ D k E _ _ _ ⟨S, ow', R2⟩ (qa p q)
      · rw [show decide (i1 < (vs.length : Int)) = false from by simpa using hlt]
        show tNext D σ H
        exact E.nx _ _ _ ⟨S, ow, R⟩ qb⟩
end
end DL

set_option maxHeartbeats 1000000
namespace DL
open PySem PySem.Spec PyProof.Rows L2
/-! ### what may be let out -/
structure Valid (X : Cx) (B : Bs) : Prop where
  tk : L2N.Takes X B.W
  xk : ∀ e cls od σ H ρ S ow, RelS X.K B S ow σ H ρ [] → Rx X.K S B.z H cls od e → B.xk e ρ → B.W cls od σ H
theorem RelS.bare {K : PySem.W.Frag} {B : Bs} {S : Addr → Prop} {ow : Addr → Option Ow} {σ : L2.St} {H : Hp} {ρ : EN} {τ : List (V × W)} (R : RelS K B S ow σ H ρ τ) : RelS K B S ow σ H ρ [] := { R with tm := trivial }
section
variable {X : Cx} {B : Bs} {x : Str} {p pos : Pos} {e : Expr} {es : List Expr} {t : TA} {ra : RA} {k : Nat} {sp : SpD}
/-- f(..), it may raise -/
def rCallX (xk : Ex → EN → Prop) (sp : SpD) (ra : RA) : RE := fun ρ k => ra ρ fun ds ρ' => sp ds (fun w => k w ρ') fun e => xk e ρ'
theorem de_callX (c : Cal X.prog X.w X.K X.mg X.base k x sp [] []) (hv : Valid X B) (hr : Room k X.A) (ha : DA X B (e :: es) t ra) (hg : Gl X x := by rfl)
    (hdb : (x == ("__debug__" : Str)) = false := by decide) (he : starEach (e :: es) X.env = (false, eval e X.env) :: starEach es X.env := by rfl) (hpl : (backTo pos (starEach es X.env)).any (·.1) = false := by rfl) :
    DE X B (.Call (.Name x p) (e :: es) [] pos) (tCallS (lift X.K sp) (WE B.W) t) (rCallX B.xk sp ra) := by
  obtain ⟨f, fd, ps, dus, F, hm, hk, hb, hd, hdd⟩ := c.ex
  cases hd
  exact ⟨pe_callS F hr hg hm hk hb (fun σ => L2N.passAt hv.tk σ) ha.pa hdb he hpl, fun σ H ρ τ Q q R h g => ha.sim σ H ρ τ _ _ R h fun ds ρ' vs H' S ow h' R' r' =>
    ⟨ds, S, B.z, _, _, r', R'.sz, R'.sh, R'.zo, h', fun w v H2 S2 hq L rr => g w ρ' v H2 hq (R'.after L rr), fun e cls od H2 S2 hx L rx => hv.xk e cls od σ H2 ρ' S2 _ (R'.after0 L).bare rx hx⟩⟩
/-! ### raise -/
structure DMk (X : Cx) (B : Bs) (e : Expr) (t : L2.St → Hp → XK → Prop) (r : EN → (Ex → EN → Prop) → Prop) : Prop where
  pmk : L2N.PMk X e t
  sim : ∀ (σ : L2.St) (H : Hp) (ρ : EN) (τ : List (V × W)) (Q : XK) (k : Ex → EN → Prop), Rel X.K B σ H ρ τ → r ρ k → (∀ e ρ' cls od H' S ow, k e ρ' → RelS X.K B S ow σ H' ρ' τ → Rx X.K S B.z H' cls od e → Q cls od H') → t σ H Q
def rRaise (xk : Ex → EN → Prop) (r : EN → (Ex → EN → Prop) → Prop) : RS := fun _ ρ => r ρ xk
theorem ds_raise {tm : L2.St → Hp → XK → Prop} {r : EN → (Ex → EN → Prop) → Prop} (hv : Valid X B) (hc : X.calm = true) (he : DMk X B e tm r) : DS X B (.Raise (some e) none pos) (fun _ σ H => tm σ H fun cls d H' => B.W cls d σ H') (rRaise B.xk r) :=
  ⟨L2N.ps_raise hc hv.tk he.pmk, fun τ D k E σ H ρ R q => he.sim σ H ρ τ _ _ R q fun e ρ' cls od H' S ow q' R' rx => hv.xk e cls od σ H' ρ' S ow R'.bare rx q'⟩
variable {C : Addr} {bmB : List Value} {BC newId initId : String}
/-- what stands of a class of errors without an __init__ of its own -/
structure XCls (K : PySem.W.Frag) (mg : Str → Option Value) (x : Str) (C : Addr) (BC newId initId : String) (bmB : List Value) : Prop where
  F : ExcBaseFacts BC newId initId bmB
  q : PySem.W.excIn K C bmB newId = true
  g : mg x = some (.ref C)
  k : PySem.W.keepIn K (.ref C) = true
  b : PySem.W.subIn K (.ref C) (.type "BaseException") = some true
  t : PySem.W.typeIn K (.ref C) = some (.type "type")
theorem XCls.r (c : XCls X.K X.mg x C BC newId initId bmB) : Raises X (.ref C) := raises_own c.b c.t
theorem pmk_bare (c : XCls X.K X.mg x C BC newId initId bmB) (hg : Gl X x) (hdb : (x == ("__debug__" : Str)) = false := by decide) : L2N.PMk X (.Call (.Name x p) [] [] pos) (fun _ H Q => Q (.ref C) none H) := fun pins s σ H Q I h => by
  refine wpAny_Call_Name_kw (ld_glob I hg c.g ?_ hdb)
  refine PySem.W.callWith_K0 I.kIn c.k ?_
  obtain ⟨_, _, _, _, _, _, _, _, _, _, _, _, _, _, _, _, _, hC, hN, hni, T⟩ := exc_obj I.kIn c.q
  exact wpAny_call_exc_subT c.F T hC hN hni (fun h' e hm => L2N.mk_of I hm c.r h (I.hok.gone hm.new)) (Nat.zero_le _)
def rMk0 (C : Addr) : EN → (Ex → EN → Prop) → Prop := fun ρ k => k ⟨.ref C, none⟩ ρ
/-- X() -/
theorem dmk_own0 (c : XCls X.K X.mg x C BC newId initId bmB) (hg : Gl X x := by rfl) (hdb : (x == ("__debug__" : Str)) = false := by decide) : DMk X B (.Call (.Name x p) [] [] pos) (fun _ H Q => Q (.ref C) none H) (rMk0 C) :=
  ⟨pmk_bare c hg hdb, fun σ H ρ τ Q k ⟨S, ow, R⟩ q f => f _ _ _ _ H S ow q R ⟨rfl, rfl⟩⟩
/-- X('..') -/
theorem dmk_ownS {m : Str} {j : Nat} {p2 : Pos} (c : XCls X.K X.mg x C BC newId initId bmB) (hg : Gl X x := by rfl) (hdb : (x == ("__debug__" : Str)) = false := by decide) : DMk X B (.Call (.Name x p) [.Constant (.str m) j p2] [] pos) (fun _ H Q => Q (.ref C) none H) (rMk0 C) :=
  ⟨L2N.pmk_own c.F c.q c.g c.k c.r hg hdb, fun σ H ρ τ Q k ⟨S, ow, R⟩ q f => f _ _ _ _ H S ow q R ⟨rfl, rfl⟩⟩
end
/-! ### statements of a body that no loop is around -/
structure DS0 (X : Cx) (B : Bs) (s : Stmt) (t : TS) (r : RS) : Prop where
  ps : PS X s t
  sim : ∀ (D : Ends) (k : KD), EndsR X.K B [] D k → ∀ (σ : L2.St) (H : Hp) (ρ : EN), Rel X.K B σ H ρ [] → r k ρ → t D σ H
structure DSs0 (X : Cx) (B : Bs) (s : List Stmt) (t : TS) (r : RS) : Prop where
  ps : PSs X s t
  sim : ∀ (D : Ends) (k : KD), EndsR X.K B [] D k → ∀ (σ : L2.St) (H : Hp) (ρ : EN), Rel X.K B σ H ρ [] → r k ρ → t D σ H
section
variable {X : Cx} {B : Bs} {s : Stmt} {ss body orelse : List Stmt} {t ts us : TS} {r rS rU : RS} {pos : Pos}
theorem DS.d0 (h : DS X B s t r) : DS0 X B s t r := ⟨h.ps, fun D k E => h.sim [] D k E⟩
theorem DSs.d0 (h : DSs X B ss t r) : DSs0 X B ss t r := ⟨h.ps, fun D k E => h.sim [] D k E⟩
theorem d0_one (h : DS0 X B s t r) : DSs0 X B [s] t r := ⟨pss_one h.ps, h.sim⟩
theorem d0_cons (h : DS0 X B s t r) (h' : DSs0 X B ss ts rS) : DSs0 X B (s :: ss) (tSeq t ts) (rSeq r rS) :=
  ⟨pss_cons h.ps h'.ps, fun D k E σ H ρ R q => h.sim { D with nx := ts D } { k with nx := rS k } ⟨fun σ H ρ R q => h'.sim D k E σ H ρ R q, E.bk, E.ct, E.rt⟩ σ H ρ R q⟩
theorem d0_if {c : Expr} {tA : TT} {ca : RT} (hc : DT X B c tA ca) (ha : DSs0 X B body ts rS) (hb : DSs0 X B orelse us rU) : DS0 X B (.If c body orelse pos) (tIfS tA ts us) (rIf ca rS rU) :=
  ⟨ps_if hc.pt ha.ps hb.ps, fun D k E σ H ρ R q => hc.sim σ H ρ [] _ _ R q fun c ρ1 H1 q1 R1 => by
    cases c with
    | true => rw [if_pos rfl]; exact ha.sim D k E σ H1 ρ1 R1 (q1.1 rfl)
    | false => rw [if_neg Bool.false_ne_true]; exact hb.sim D k E σ H1 ρ1 R1 (q1.2 rfl)⟩
/-- a slot emptied -/
theorem RelS.unset {K : PySem.W.Frag} {S : Addr → Prop} {ow : Addr → Option Ow} {σ : L2.St} {H : Hp} {ρ : EN} {τ : List (V × W)} (R : RelS K B S ow σ H ρ τ) (i : Nat) : RelS K B S ow (σ.set i none) H (st ρ i none) τ :=
  { R with
    len := by rw [List.length_set, st_length]; exact R.len
    sl := fun j w e => by
      rw [gt_st] at e
      split at e
      · cases e
      · rename_i hn
        have hl := gt_lt e
        have hne : i ≠ j := fun z => hn ⟨z.symm, z ▸ hl⟩
        rw [List.getElem?_set_ne hne]
        exact R.sl j w e }
theorem RelS.wx {K : PySem.W.Frag} {S : Addr → Prop} {ow : Addr → Option Ow} {σ : L2.St} {H : Hp} {ρ : EN} {τ : List (V × W)} (R : RelS K B S ow σ H ρ τ) (W : L2.WX) (xk : Ex → EN → Prop) : RelS K { B with W := W, xk := xk } S ow σ H ρ τ :=
  ⟨R.s0, R.s1, R.sz, R.sh, R.so, R.oh, R.oz, R.fr, R.zo, R.z0, R.len, R.sl, R.tm⟩
theorem RelS.unwx {K : PySem.W.Frag} {S : Addr → Prop} {ow : Addr → Option Ow} {σ : L2.St} {H : Hp} {ρ : EN} {τ : List (V × W)} {W : L2.WX} {xk : Ex → EN → Prop} (R : RelS K { B with W := W, xk := xk } S ow σ H ρ τ) : RelS K B S ow σ H ρ τ :=
  ⟨R.s0, R.s1, R.sz, R.sh, R.so, R.oh, R.oz, R.fr, R.zo, R.z0, R.len, R.sl, R.tm⟩
/-! ### try: .. except x as n: .. -/
def excD (a : Addr) (d : Addr) (e : Ex) : D := match e.fs with
  | none => .exc a e.cls
  | some l => .excF a e.cls d l
/-- its dict -/
def odOf (d : Addr) (e : Ex) : Option Addr := e.fs.map fun _ => d
def rHand (K : PySem.W.Frag) (c : Value) (i : Nat) (rs : Addr → Value → Option Addr → RS) (xk : Ex → EN → Prop) (k : KD) : Ex → EN → Prop := fun e ρ => ∃ b, PySem.W.exmOne K e.cls c = some b ∧
  (b = true → ∀ a d, rs a e.cls (odOf d e) { nx := fun ρ => k.nx (st ρ i none), rt := k.rt, bk := fun ρ => k.bk (st ρ i none), ct := fun ρ => k.ct (st ρ i none) } (st ρ i (some (.v (excD a d e))))) ∧ (b = false → xk e ρ)
def rTryAs (K : PySem.W.Frag) (c : Value) (i : Nat) (rb : (Ex → EN → Prop) → RS) (rs : Addr → Value → Option Addr → RS) (xk : Ex → EN → Prop) : RS := fun k ρ => rb (rHand K c i rs xk k) k ρ
variable {x n : Str} {c : Value} {i : Nat} {suite : List Stmt} {b₀ : Stmt} {np pos' : Pos} {tb : L2.WX → TS} {tsu : Addr → Value → Option Addr → TS} {rb : (Ex → EN → Prop) → RS} {rs : Addr → Value → Option Addr → RS}
theorem ds_try_as (hs : X.stack = X.env :: X.outer) (hf : X.env.frame = some X.env.locals) (hN : X.N.Nodup) (hi : X.N[i]? = some n) (hln : X.env.kindOf n = some .local) (hc : Names X x c) (hv : Valid X B)
    (hb : ∀ (W : L2.WX) (xk : Ex → EN → Prop) (pn : List (Addr × Obj)) (xe : Value → Shared → Prop), Valid (X.tr pn xe) { B with W := W, xk := xk } → DSs0 (X.tr pn xe) { B with W := W, xk := xk } body (tb W) (rb xk))
    (hsu : ∀ (a : Addr) (oe : Obj) (cls : Value) (d : Option Addr) (pn : List (Addr × Obj)), L2N.Zn cls d oe → (∃ vs, oe.data = .fields vs) → DSs0 (X.suite a ((a, oe) :: pn)) B (b₀ :: suite) (tsu a cls d) (rs a cls d)) :
    DS0 X B (.Try body [.ExceptHandler (some (.Name x np)) (some n) (b₀ :: suite) pos'] [] [] pos) (fun D σ H => tb (wAs X.K c i tsu B.W D) D σ H) (rTryAs X.K c i rb rs B.xk) := by
  have hvd : ∀ (D : Ends) (k : KD), EndsR X.K B [] D k → ∀ (pn : List (Addr × Obj)) (xe : Value → Shared → Prop), L2N.Takes (X.tr pn xe) (wAs X.K c i tsu B.W D) → Valid (X.tr pn xe) { B with W := wAs X.K c i tsu B.W D, xk := rHand X.K c i rs B.xk k } := fun D k E pn xe tk =>
    ⟨tk, fun e cls od σ H ρ S ow R rx q => by
      obtain ⟨b, hb1, hyes, hno⟩ := q
      have R1 : RelS X.K B S ow σ H ρ [] := R.unwx
      have rx1 : Rx X.K S B.z H cls od e := rx
      obtain ⟨ec, rx2⟩ := id rx1
      refine ⟨b, by rw [ec]; exact hb1, fun hbt a na => ?_, fun hbf => hv.xk e cls od σ H ρ S ow R1 rx1 (hno hbf)⟩
      have hd : ∃ d, Rp X.K S B.z H (.ref a) (excD a d e) ∧ od = odOf d e := by
        unfold excD odOf
        cases ef : e.fs with
        | none =>
          rw [ef] at rx2
          exact ⟨a, .exc, rx2⟩
        | some l =>
          rw [ef] at rx2
          obtain ⟨d, lv, ho, h1, h2, h3, h4⟩ := rx2
          exact ⟨d, .excF h1 h2 h3 h4, ho⟩
      obtain ⟨d, hd, hod⟩ := hd
      obtain ⟨ow', R2⟩ := (R1.push hd).toSlot (i := i)
      have hq := hyes hbt a d
      rw [← ec, ← hod] at hq
      -- some object of that class stands there
      let oe : Obj := { cls := cls, dict := od, data := .fields #[.none, .none, .none] }
      have hz : L2N.Zn cls od oe := ⟨rfl, rfl, fun vs e => by cases e; rfl⟩
      exact (hsu a oe cls od [] hz ⟨_, rfl⟩).sim { nx := fun σ' H' => D.nx (σ'.set i none) H', rt := D.rt, bk := fun σ' H' => D.bk (σ'.set i none) H', ct := fun σ' H' => D.ct (σ'.set i none) H' } { nx := fun ρ => k.nx (st ρ i none), rt := k.rt, bk := fun ρ => k.bk (st ρ i none), ct := fun ρ => k.ct (st ρ i none) }
        ⟨fun σ' H' ρ' ⟨S', ow', R'⟩ q => E.nx _ _ _ ⟨S', ow', R'.unset i⟩ q, fun σ' H' ρ' ⟨S', ow', R'⟩ q => E.bk _ _ _ ⟨S', ow', R'.unset i⟩ q, fun σ' H' ρ' ⟨S', ow', R'⟩ q => E.ct _ _ _ ⟨S', ow', R'.unset i⟩ q, E.rt⟩ _ _ _ ⟨S, ow', R2⟩ hq⟩
  refine ⟨L2N.ps_try_as hs hf hN hi hln hc hv.tk (tb := tb) (ts := tsu) (fun W pn xe tk _ => ?_) (fun a oe cls d pn hz hf => (hsu a oe cls d pn hz hf).ps), fun D k E σ H ρ R q => ?_⟩
  · exact (hb W (fun _ _ => False) pn xe ⟨tk, fun _ _ _ _ _ _ _ _ _ _ z => z.elim⟩).ps
  · exact (hb _ _ [] _ (hvd D k E [] (fun _ _ => True) fun _ _ _ => trivial)).sim D k ⟨fun σ H ρ ⟨S, ow, R⟩ q => E.nx _ _ _ ⟨S, ow, R.unwx⟩ q, fun σ H ρ ⟨S, ow, R⟩ q => E.bk _ _ _ ⟨S, ow, R.unwx⟩ q, fun σ H ρ ⟨S, ow, R⟩ q => E.ct _ _ _ ⟨S, ow, R.unwx⟩ q, fun v w σ H ρ ⟨S, ow, R⟩ q => E.rt v w σ H ρ ⟨S, ow, R.unwx⟩ q⟩ σ H ρ (let ⟨S, ow, R⟩ := R; ⟨S, ow, R.wx _ _⟩) q
end
end DL

set_option maxHeartbeats 1000000
namespace DL
open PySem PySem.Spec PyProof.Rows L2
/-! ### count of a list of True, False -/
theorem bools_of : ∀ {bs : List Bool} {us : List Value}, Vals (bs.map V.bl) us → us = bs.map Value.bool
  | [], _, .nil => rfl
  | b :: bs, _, .cons h r => by
    rw [bools_of r]
    cases h
    rfl
def rCntB (K : PySem.W.Frag) : V → List V → Hp → VK → Prop := fun x xs H Q => ∃ (p : Addr) (bs : List Bool) (k : Bool), x = .ref p ∧ xs = [.bl k] ∧ SqL K H p (bs.map V.bl) ∧ Q (.int (bs.count k : Nat)) H
theorem mt_cntB {X : Cx} : MtR X "list.count" (rCntB X.K) := fun pins s σ H x xs v us Q I rx rxs ⟨p, bs, k, ex, exs, hs, q⟩ => by
  subst ex exs
  cases rx
  obtain ⟨u, rfl, ru⟩ := rxs.one
  cases ru
  obtain ⟨its, rv, ⟨⟨cls, dd, data, sl⟩, n, ho, hc, hdn, hd⟩, hlen⟩ := I.list hs
  simp only at hc hd
  subst hc hd
  have hi := bools_of rv
  subst hi
  refine call_meets PySem.F.slot_list_count ⟨_, ho, rfl⟩ PySem.F.entry_list_count (PySem.F.args_list_count_2 _ _) (SeqAt.list_countAt p _ n dd sl (.bool k) (PyProof.Rows.isBoolOf k)) ⟨ho, fun y hy => ?_, ?_⟩
  · have hy' : y ∈ bs.map Value.bool := by simpa using hy
    obtain ⟨b, _, rfl⟩ := List.mem_map.mp hy'
    exact SeqAt.EqAt.bool_bool b k
  · refine ⟨.int (bs.count k : Nat), H, I.tok _, ⟨s.toks, ?_⟩, q⟩
    have e : (bs.map Value.bool).toArray.toList.countP (PyProof.Rows.isBoolOf k) = bs.count k := by
      show (bs.map Value.bool).countP _ = _
      rw [List.countP_map]
      rfl
    rw [e]
def boolsD : List D → Option (List Bool)
  | [] => some []
  | .bl b :: r => (boolsD r).map (b :: ·)
  | _ => none
theorem boolsD_ok {K : PySem.W.Frag} {S : Addr → Prop} {z : Option (Addr × Addr)} {H : Hp} : ∀ {vs : List V} {ds : List D} {bs : List Bool}, RpA K S z H vs ds → boolsD ds = some bs → vs = bs.map V.bl
  | _, _, _, .nil, e => by cases e; rfl
  | _, _, _, .cons (d := d) h r, e => by
    cases h with
    | bl b =>
      obtain ⟨bs', e1, rfl⟩ := map_some (show (boolsD _).map (b :: ·) = _ from e)
      rw [boolsD_ok r e1]
      rfl
    | _ => cases e
section
variable {X : Cx} {B : Bs} {o e : Expr} {te to : TE} {re ro : RE} {apos cpos : Pos}
def gCnt : G2 := fun x y k => match itL x, y with
  | some ds, .v (.bl b) => ∃ bs, boolsD ds = some bs ∧ k (.v (.int (bs.count b : Nat)))
  | _, _ => False
theorem tyV_list {K : PySem.W.Frag} {S : Addr → Prop} {z : Option (Addr × Addr)} {H : Hp} {ow : Addr → Option Ow} {oo : Ow} {x : V} {w : W} {ds : List D} (h : Rw K S z H ow oo x w) (e : itL w = some ds) : ∃ a vs, x = .ref a ∧ SqL K H a vs ∧ RpB K S z H vs ds ∧ tyV K "list" x H := by
  obtain ⟨a, vs, rfl, h1, h2⟩ := h.lst e
  exact ⟨a, vs, rfl, h1, h2, .inl ⟨rfl, vs, h1⟩⟩
def rCnt (ro re : RE) : RE := fun ρ k => ro ρ fun w ρ1 => (∃ ds, itL w = some ds) ∧ re ρ1 fun u ρ2 => gCnt w u fun w' => k w' ρ2
theorem de_m_count (ho : DE X B o to ro) (he : DE X B e te re) (hbase : attributeBase o "count" X.env (eval o X.env) = eval o X.env := by rfl)
    (hfew : ((backTo cpos (starEach [e] X.env)).all (fun x => !x.1) && (backToKw cpos (keywordEach [] X.env)).all (fun x => x.1.isSome) && decide (([e] : List Expr).length + ([] : List Keyword).length + (if ([] : List Keyword).isEmpty then 0 else 1) < 30)) = true := by rfl)
    (hline : (apos.endLine == cpos.line) = true := by rfl) (hs : starEach [e] X.env = (false, eval e X.env) :: starEach [] X.env := by rfl) (hplain : (backTo cpos (starEach [] X.env)).any (·.1) = false := by rfl) :
    DE X B (.Call (.Attribute o "count" apos) [e] [] cpos) (tBM X.K "list" (rCntB X.K) to (tCons te tNil)) (rCnt ro re) :=
  ⟨pe_bm PySem.F.plainAttrs_list PySem.F.slot_list_count PySem.F.type_list_count mt_cntB ho.pe (pa_cons he.pe pa_nil hs) hbase hfew hline hs hplain, fun σ H ρ τ Q k R q f =>
    ho.sim σ H ρ τ _ _ R q fun w ρ1 v H1 ⟨⟨ds, hw⟩, q1⟩ R1 => by
      obtain ⟨S1, ow1, R1'⟩ := id R1
      obtain ⟨a, vs, rfl, _, _, ty⟩ := tyV_list R1'.top hw
      refine ⟨ty, he.sim _ _ _ _ _ _ R1 q1 fun u ρ2 v2 H2 q2 ⟨S, ow, R2⟩ => ?_⟩
      unfold gCnt at q2
      rw [hw] at q2
      split at q2
      · rename_i e1 _
        cases e1
        obtain ⟨bs, eb, q2⟩ := q2
        obtain ⟨a', us, e2, h1, _, h3⟩ := R2.pop.top.lst hw
        have := R2.top.bl
        subst this
        rw [boolsD_ok h3 eb] at h1
        exact ⟨a', bs, _, e2, rfl, h1, f _ _ _ _ q2 ⟨S, ow, R2.pop.pop.push (.int _)⟩⟩
      · exact q2.elim⟩
end
/-! ### defs called in an except suite, the exception handed in -/
structure FnE (P : Program) (w : World) (K : PySem.W.Frag) (mg : Str → Option Value) (base : Heap) (k : Nat) (f : Addr) (fd : FuncData) (ps : List Str) (sp : Addr × Obj → Sp) : Prop where
  ln : ∀ p vs H Q, sp p vs H Q E0 → vs.length = ps.length
  go : ∀ (p : Addr × Obj) (A : Around) (out : List Env) (st : Shared) (H : Hp) (ar : Args) (us : List Value) (vs : List V) (Q : VK), L2H.RoomH k A → L2H.Hot1 A p → L2H.PinOk out H st p → Env0 P w K mg base A out st H → BindsTo st fd ar (ps.zip us) → Vals vs us →
    sp p vs H Q E0 → codeAny (model P w) A (.call (.ref f) ar) (CR CX0 out P w H st Q E0) st
section
variable {P : Program} {w : World} {K : PySem.W.Frag} {mg : Str → Option Value} {base : Heap}
theorem FnE.mono {j k : Nat} {f : Addr} {fd : FuncData} {ps : List Str} {sp : Addr × Obj → Sp} (F : FnE P w K mg base j f fd ps sp) (h : j ≤ k) : FnE P w K mg base k f fd ps sp :=
  ⟨F.ln, fun p A out st H ar us vs Q hr => F.go p A out st H ar us vs Q (hr.mono h)⟩
theorem fn_ofE {x qual : Str} {params : Arguments} {body : List Stmt} {scope : Scope} {dvs : List V} {kws : List (Str × V)} {f : Addr} {fd : FuncData} {N ps : List Str} {k : Nat} {sp : Addr × Obj → Sp} (F : FunD K x qual params body scope dvs kws f fd) (S : FnScope N ps scope)
    (ln : ∀ p vs H Q, sp p vs H Q E0 → vs.length = ps.length)
    (hb : ∀ (cdv : Value) (A : Around) (out : List Env) (st : Shared) (H : Hp) (vs : List V) (Q : VK) (p : Addr × Obj), L2H.Hot1 A p → L2H.RoomH k (A.deeper (envOfC qual scope st.heap.objs.size f cdv)) → sp p vs H Q E0 →
      ∃ t, PSs (L2H.cxH CX0 P w K mg base N qual scope f cdv A out st H E0 p) body t ∧ t { nx := fun _ H' => Q .non H', rt := Q } (L2.start N vs) H) : FnE P w K mg base (k + 1) f fd ps sp := by
  obtain ⟨oc, od, dV, kV, doc, pm, an, cdv, ct, osl, rfl, lk, hcd, _, _⟩ := F.ex
  refine ⟨ln, fun p A out st H ar us vs Q hr hot pin e0 bnd rv h => ?_⟩
  have hlen := ln _ _ _ _ h
  have grow : base.StaysIn st.heap := fun b o e => (e0.bs b o e).1
  have KX : K.In st.heap := e0.mod.kin.keeps grow
  have place : ∀ y ∈ ps.zip us, scope.names.lookup y.1 = some .local ∨ (scope.names.lookup y.1 = some .cell ∧ ((cellsFrom (st.heap.objs.size + 1) scope.names []).lookup y.1).isSome = true) := by
    rintro ⟨n, v⟩ hy
    exact (S.par n (List.of_mem_zip hy).1).imp id fun q => ⟨q, PySem.W.cellsFrom_some _ _ _ (.inl q)⟩
  refine codeAny_call_function hr.depth (KX _ _ lk) rfl S.co S.gen rfl (PySem.W.codeRec_of KX hcd) (bnd _ _ _ _ (wpAny_newFunctionEnv_cells S.kind place ?_))
  intro env he s1 x1
  subst he
  refine ⟨(e0.mod.nolimit.keeps grow).keeps x1.toInCall.keep, codeAny_func ?_⟩
  obtain ⟨t, ht, hq⟩ := hb cdv A out st H vs Q p hot (hr.deeper _) h
  refine wpAny_mono (ht.run [] s1 _ H _ (L2H.inv_startH S pin e0 hlen rv x1) hq) (fun fl s2 hs => ?_) fun e s2 hs => hs
  have done : ∀ {σ2 : L2.St} {H2 : Hp} {v : V} {u : Value}, Inv (L2H.cxH CX0 P w K mg base N qual scope f cdv A out st H E0 p) [] σ2 H2 s2 → RelV v u → Q v H2 → CE out P w H st Q u s2 :=
    fun {σ2 H2 v u} J r2 q2 => ⟨v, H2, J.os, J.bare, J.base, J.hok, r2, q2⟩
  cases fl with
  | next =>
    obtain ⟨_, _, J, q2⟩ := hs
    exact done (v := .non) (u := .none) J rfl q2
  | ret u =>
    obtain ⟨_, _, _, J, r2, q2⟩ := hs
    exact done J r2 q2
  | brk =>
    obtain ⟨_, _, _, q2⟩ := hs
    exact q2.elim
  | cont =>
    obtain ⟨_, _, _, q2⟩ := hs
    exact q2.elim
/-- what such a def says of plain data: okC the exception's class and dict -/
def liftE (K : PySem.W.Frag) (okC : Value → Option Addr → Prop) (sp : Addr → Value → SpD) : Addr × Obj → Sp := fun p vs H Q E => ∃ C od, okC C od ∧ L2N.Zn C od p.2 ∧ (∃ fs, p.2.data = .fields fs) ∧ lift K (sp p.1 C) vs H Q E
theorem fn_okE {x qual : Str} {params : Arguments} {body : List Stmt} {scope : Scope} {dvs : List V} {kws : List (Str × V)} {f : Addr} {fd : FuncData} {N ps : List Str} {k : Nat} {okC : Value → Option Addr → Prop} {sp : Addr → Value → SpD} (F : FunD K x qual params body scope dvs kws f fd) (S : FnScope N ps scope)
    (hl : ∀ a C ds q x, sp a C ds q x → ds.length = ps.length)
    (hb : ∀ (cdv : Value) (A : Around) (out : List Env) (st : Shared) (H : Hp) (p : Addr × Obj) (B : Bs) (C : Value) (od : Option Addr), okC C od → L2N.Zn C od p.2 → (∃ fs, p.2.data = .fields fs) → L2H.RoomH k (A.deeper (envOfC qual scope st.heap.objs.size f cdv)) →
      ∃ t r, DSs0 (L2H.cxH CX0 P w K mg base N qual scope f cdv A out st H E0 p).nox B body t r ∧ ∀ ds q x, sp p.1 C ds q x → r ⟨fun _ => q (.v .non), fun w _ => q w, fun _ => False, fun _ => False⟩ (startE N.length ds)) :
    FnE P w K mg base (k + 1) f fd ps (liftE K okC sp) := by
  refine fn_ofE F S (fun p vs H Q h => ?_) (fun cdv A out st H vs Q p hot hr h => ?_)
  · obtain ⟨C, od, _, _, _, ds, S, z, q, x, r, _, _, _, h, _⟩ := h
    rw [r.length]
    exact hl _ _ _ _ _ h
  · obtain ⟨C, od, hC, hz, hfs, ds, S0, z, q, x, r, hz0, sh, zo, h, g, _⟩ := h
    obtain ⟨t, rd, d, hd⟩ := hb cdv A out st H p ⟨H, S0, fun _ _ _ _ => False, fun _ _ => False, z⟩ C od hC hz hfs hr
    refine ⟨t, d.ps.nox, ?_⟩
    have hn : ds.length ≤ N.length := by
      have h1 := hl _ _ _ _ _ h
      have h2 := congrArg List.length S.pre
      rw [List.length_take] at h2
      omega
    refine d.sim _ ⟨fun _ => q (.v .non), fun w _ => q w, fun _ => False, fun _ => False⟩ ⟨?_, fun _ _ _ _ e => e.elim, fun _ _ _ _ e => e.elim, ?_⟩ _ H _ ⟨S0, _, rel_start hn r hz0 sh zo⟩ (hd ds q x h)
    · rintro σ H' ρ ⟨S, ow, R⟩ e
      exact g _ _ _ S e R.left .non
    · rintro v w σ H' ρ ⟨S, ow, R⟩ e
      exact g _ _ _ S e R.left R.rr
/-- it may be called there -/
structure CalE (P : Program) (w : World) (K : PySem.W.Frag) (mg : Str → Option Value) (base : Heap) (k : Nat) (x : Str) (okC : Value → Option Addr → Prop) (sp : Addr → Value → SpD) : Prop where
  ex : ∃ (f : Addr) (fd : FuncData) (ps : List Str), FnE P w K mg base k f fd ps (liftE K okC sp) ∧ mg x = some (.ref f) ∧ PySem.W.keepIn K (.ref f) = true ∧ Binds K fd ps []
end
section
variable {X : Cx} {B : Bs} {x : Str} {p pos : Pos} {e : Expr} {es : List Expr} {t : TA} {ra : RA} {k : Nat} {okC : Value → Option Addr → Prop} {sp : Addr → Value → SpD} {a : Addr} {oe : Obj} {pn : List (Addr × Obj)} {C : Value} {od : Option Addr}
theorem run_fnE {f : Addr} {fd : FuncData} {ps : List Str} {spp : Addr × Obj → Sp} {pins : List (Addr × Obj)} {σ : L2.St} {H : Hp} {s : Shared} {Q : VK} {us : List Value} {vs : List V} {pp : Addr × Obj} (F : FnE X.prog X.w X.K X.mg X.base k f fd ps spp) (hr : L2H.RoomH k X.A) (hot : L2H.Hot1 X.A pp) (hp : pp ∈ X.pn) (hb : Binds X.K fd ps [])
    (I : Inv X pins σ H s) (r : Vals vs us) (h : spp pp vs H Q E0) : wpAny (model X.prog X.w) X.A (call (.ref f) us) (EP X pins σ Q) X.xe s := by
  have b0 := hb s us I.kIn (by rw [List.append_nil, ← r.length]; exact F.ln _ _ _ _ h)
  rw [List.append_nil] at b0
  obtain ⟨g1, g2, g3, g4, g5⟩ := I.pin pp (List.mem_append_left _ hp)
  refine wpAny_call (codeAny_mono (F.go pp X.A X.stack s H ⟨us, []⟩ us vs Q hr hot ⟨g1, g2, fun hm => (List.mem_cons.mp (I.stkSub pp.1 hm)).elim g3 g4, g5⟩ I.env0 b0 r h) ?_)
  rintro (e | fl) s' hq
  · exact hq.elim
  · cases fl with
    | ret u => exact I.after hq
    | next => exact hq.elim
    | brk => exact hq.elim
    | cont => exact hq.elim
def rCallE (okC : Value → Option Addr → Prop) (sp : Addr → Value → SpD) (a : Addr) (C : Value) (od : Option Addr) (ra : RA) : RE := fun ρ k => ra ρ fun ds ρ' => okC C od ∧ sp a C ds (fun w => k w ρ') fun _ => False
/-- f(..) there -/
theorem roomS {k : Nat} {A : Around} {h : Option Value} (r : Room k A) : L2H.RoomH k (A.mark h) := ⟨r.dp, r.un⟩
theorem de_callE (c : CalE X.prog X.w X.K X.mg X.base k x okC sp) (hp : (a, oe) ∈ X.pn) (hot : X.A.handled = some (.ref a)) (hz : L2N.Zn C od oe) (hfs : ∃ vs, oe.data = .fields vs) (hr : L2H.RoomH k X.A) (ha : DA X B (e :: es) t ra) (hg : Gl X x := by rfl)
    (hdb : (x == ("__debug__" : Str)) = false := by decide) (he : starEach (e :: es) X.env = (false, eval e X.env) :: starEach es X.env := by rfl) (hpl : (backTo pos (starEach es X.env)).any (·.1) = false := by rfl) :
    DE X B (.Call (.Name x p) (e :: es) [] pos) (fun σ H Q => t σ H fun vs H1 => ∀ o : Obj, L2N.Zn C od o → (∃ fs, o.data = .fields fs) → liftE X.K okC sp (a, o) vs H1 Q E0) (rCallE okC sp a C od ra) := by
  obtain ⟨f, fd, ps, F, hm, hk, hb⟩ := c.ex
  obtain ⟨fs, hfs⟩ := hfs
  refine ⟨⟨fun pins s σ H Q I h => ?_⟩, fun σ H ρ τ Q q R h g => ha.sim σ H ρ τ _ _ R h fun ds ρ' vs H' S ow h' R' r' o hzo hfo => ⟨C, od, h'.1, hzo, hfo, ?_⟩⟩
  · refine wpAny_Call_Name_kw (ld_glob I hg hm ?_ hdb)
    refine PySem.W.callWith_K (h₀ := X.base) I.ok.mod.kin hk (thn (ha.pa.run pos pins s σ H _ I h) fun us s1 ⟨vs, H1, I1, r, q⟩ => ⟨I1.kIn, ?_⟩) he hpl
    exact run_fnE F hr ⟨hot, fs, hfs, hz.2.2 fs hfs⟩ hp hb I1 r (q oe hz ⟨fs, hfs⟩)
  · exact call_sim R' r' h'.2 fun w v H2 hq R2 => g w ρ' v H2 hq R2
/-! ### isinstance of the exception -/
theorem call_isX {D : Addr} {a : Addr} {oe : Obj} (hp : (a, oe) ∈ X.pn) (CC : ExcC X.K D) (hz : L2N.Zn (.ref D) none oe) (hf : ∃ vs, oe.data = .fields vs) : CallR X (.builtin "isinstance") (rIsE X.K D a) := fun pins s σ H xs us Q I r ⟨c, cv, b, exs, hcv, e, q⟩ => by
  subst exs
  cases r with
  | cons rx rr =>
    cases rr with
    | cons rt r0 =>
      cases r0
      cases rx
      obtain rfl := hcv _ rt
      have hget := (I.pin (a, oe) (List.mem_append_left _ hp)).1
      obtain ⟨vs, hv⟩ := hf
      obtain ⟨oc, od, oda, osl⟩ := oe
      obtain ⟨h1, h2, _⟩ := hz
      dsimp only at h1 h2 hv
      subst h1 h2 hv
      have J : PySem.W.InstAt s.heap a _ D none := ⟨hget, rfl, rfl, trivial⟩
      exact PySem.W.kia_one (PySem.W.handS_kitx_exc CC.hg CC.hk CC.hs CC.hd CC.ha CC.hn CC.ht CC.hm) I.kIn J e (fun z => nomatch z) fun tk => ⟨.bl b, H, I.kept (t' := tk) fun _ _ z => z, rfl, q⟩
def rIsX (K : PySem.W.Frag) (D a : Addr) (cv : Value) (re : RE) : RE := fun ρ k => re ρ fun w ρ' => match w with
  | .v (.exc a' C) => a' = a ∧ ∃ b, PySem.W.kitOne K (.ref D) cv = some b ∧ k (.v (.bl b)) ρ'
  | _ => False
theorem de_isX {D : Addr} {te : TE} {re : RE} {ec : Expr} {cvv : V} {cv : Value} (hp : (a, oe) ∈ X.pn) (CC : ExcC X.K D) (hz : L2N.Zn (.ref D) none oe) (hf : ∃ vs, oe.data = .fields vs) (he : DE X B e te re) (hc : PE X ec (tC cvv)) (hcv : ∀ u, RelV cvv u → u = cv) (hm : X.mg "isinstance" = none)
    (hg : Gl X "isinstance" := by rfl) (hs1 : starEach (e :: [ec]) X.env = (false, eval e X.env) :: starEach [ec] X.env := by rfl) (hs2 : starEach (ec :: []) X.env = (false, eval ec X.env) :: starEach [] X.env := by rfl) (hpl : (backTo pos (starEach [ec] X.env)).any (·.1) = false := by rfl) :
    DE X B (.Call (.Name "isinstance" p) [e, ec] [] pos) (tCB (rIsE X.K D a) (tCons te (tCons (tC cvv) tNil))) (rIsX X.K D a cv re) :=
  ⟨pe_callB (call_isX hp CC hz hf) hg hm (by decide +kernel) (pa_cons he.pe (pa_cons hc pa_nil hs2) hs1) (he := hs1) (hpl := hpl), fun σ H ρ τ Q k R q f => he.sim σ H ρ τ _ _ R q fun w ρ' v H' q' R' => by
    obtain ⟨S, ow, R'⟩ := R'
    split at q'
    · obtain ⟨ea, b, eb, q'⟩ := q'
      have hv : v = .ref a := by
        have h0 := R'.top
        rw [← ea]
        cases (show Rp X.K S B.z H' v (.exc _ _) from h0)
        rfl
      subst hv
      exact ⟨cvv, cv, b, rfl, hcv, eb, f _ _ _ _ q' ⟨S, ow, R'.pop.push (.bl _)⟩⟩
    · exact q'.elim⟩
end
end DL

set_option maxHeartbeats 1000000
namespace DL
open PySem PySem.Spec PyProof.Rows L2
section
variable {K : PySem.W.Frag} {B : Bs} {S : Addr → Prop} {ow : Addr → Option Ow} {σ : L2.St} {H : Hp} {ρ : EN} {τ : List (V × W)}
/-- a new place that never changes again -/
theorem RelS.newShr (R : RelS K B S ow σ H ρ τ) {p : Addr} {o : HO} (hp : H p = none) : RelS K B (fun b => S b ∨ b = p) (owAt ow p none) σ (upd H p o) ρ τ := by
  have k := keep_new (H := H) (o := o) hp
  have R' := R.keep k
  have hs : ∀ b, S b → S b ∨ b = p := fun b s => .inl s
  have kk : Kp S (upd H p o) (upd H p o) := fun _ _ e _ => e
  have nol : ∀ a x, H a = some x → a ≠ p := fun a x e => ne_of_none e hp
  have ko : ∀ {q : Ow} {v : V} {w : W}, Rw K S B.z H ow q v w → Rw K (fun b => S b ∨ b = p) B.z (upd H p o) (owAt ow p none) q v w := fun {q v w} h =>
    match w, h with
    | .v d, h => Rp.mono hs (fun a u e _ => k a u e) h
    | .o ds, ⟨a, vs, e, ho, hh, r⟩ => ⟨a, vs, e, (owAt_ne (nol a _ hh)).trans ho, k _ _ hh, RpB.mono hs (fun a u e _ => k a u e) r⟩
    | .od ds, ⟨a, vs, e, ho, hh, q, r⟩ => ⟨a, vs, e, (owAt_ne (nol a _ hh)).trans ho, k _ _ hh, q, RpA.mono hs (fun a u e _ => k a u e) r⟩
  have kt : ∀ {t : List (V × W)}, Tok K S B.z H ow t → Tok K (fun b => S b ∨ b = p) B.z (upd H p o) (owAt ow p none) t := by
    intro t
    induction t with
    | nil => intro _; trivial
    | cons x t ih => intro h; exact ⟨ko h.1, ih h.2⟩
  exact { R' with
    s0 := fun b s => .inl (R.s0 b s)
    s1 := fun b s => s.elim (R.s1 b) fun e => .inr (e ▸ R.fresh0 hp)
    sz := fun b c e s => s.elim (R.sz b c e) fun q => R.freshZ hp c (q ▸ e)
    sh := fun b s => s.elim (R'.sh b) fun q => ⟨o, by rw [q]; exact upd_same⟩
    so := fun b s => by
      by_cases hb : b = p
      · rw [hb]; exact owAt_same
      · rw [owAt_ne hb]
        exact s.elim (R.so b) fun q => absurd q hb
    oh := fun b q e => by
      by_cases hb : b = p
      · rw [hb, owAt_same] at e; cases e
      · rw [owAt_ne hb] at e; exact R.oh b q e
    oz := fun b c e => by
      by_cases hb : b = p
      · rw [hb]; exact owAt_same
      · rw [owAt_ne hb]; exact R.oz b c e
    zo := R'.zo.mono hs kk (fun _ _ _ _ e => e)
    sl := fun i w e => by
      obtain ⟨v, h1, h2⟩ := R.sl i w e
      exact ⟨v, h1, ko h2⟩
    tm := kt R.tm }
theorem temps_get : ∀ {vs : List V} {ds : List D}, vs.length = ds.length → RelS K B S ow σ H ρ (temps vs ds ++ τ) → RpA K S B.z H vs ds ∧ RelS K B S ow σ H ρ τ
  | [], [], _, R => ⟨.nil, R⟩
  | v :: vs, d :: ds, hl, R => by
    obtain ⟨h1, h2⟩ := temps_get (vs := vs) (ds := ds) (by simpa using hl) (RelS.pop (v := v) (w := .v d) R)
    exact ⟨.cons (RelS.top (v := v) (w := .v d) R) h1, h2⟩
theorem look_ok {z : Option (Addr × Addr)} {f : Str} : ∀ {lv : List (Str × V)} {l : List (Str × D)} {d : D}, lv.map (·.1) = l.map (·.1) → RpA K S z H (lv.map (·.2)) (l.map (·.2)) → l.lookup f = some d → ∃ v, lv.lookup f = some v ∧ Rp K S z H v d
  | [], [], _, _, _, e => by cases e
  | (x, v) :: lv, (y, d0) :: l, d, hk, r, e => by
    cases r with
    | cons h r =>
      have hk1 : x = y := (List.cons.inj hk).1
      have hk2 : lv.map (·.1) = l.map (·.1) := (List.cons.inj hk).2
      subst hk1
      rw [List.lookup_cons] at e ⊢
      cases hf : (f == x) with
      | true =>
        rw [hf] at e
        cases e
        exact ⟨v, rfl, h⟩
      | false =>
        rw [hf] at e
        exact look_ok hk2 r e
end
/-! ### fields -/
section
variable {X : Cx} {B : Bs} {e : Expr} {te : TE} {re : RE} {f : Str} {pos : Pos}
def gFld (K : PySem.W.Frag) (f : Str) : G1 := fun w k => match w with
  | .v (.ins C fs) => Cls K C ∧ NoAttr K C f ∧ ∃ d, fs.lookup f = some d ∧ k (.v d)
  | _ => False
theorem de_fld (he : DE X B e te re) (hb : attributeBase e f X.env (eval e X.env) = eval e X.env := by rfl) : DE X B (.Attribute e f pos) (tFld X.K te f) (rUn (gFld X.K f) re) :=
  ⟨pe_fld he.pe hb, fun σ H ρ τ Q k R q g => he.sim σ H ρ τ _ _ R q fun w ρ' v H' q' R' => by
    obtain ⟨S, ow, R'⟩ := R'
    unfold gFld at q'
    split at q'
    · obtain ⟨c, n, d, hd, q'⟩ := q'
      cases (show Rp X.K S B.z H' v (.ins _ _) from R'.top) with
      | ins s h1 hk r =>
        obtain ⟨u, hu, ru⟩ := look_ok hk r hd
        exact ⟨_, _, _, _, u, rfl, h1, c, n, hu, g _ _ _ _ q' ⟨S, ow, R'.pop.push ru⟩⟩
    · exact q'.elim⟩
end
/-! ### a class whose __init__ stores its parameters -/
def spIns (C : Addr) (names : List Str) : Sp := fun vs H Q E => ∃ a dx ws, vs = .ref a :: ws ∧ H a = some (.ins C dx []) ∧ ws.length = names.length ∧ Q .non (upd H a (.ins C dx (names.zip ws)))
/-- keywords -/
structure DK (X : Cx) (B : Bs) (es : List Keyword) (t : TA) (r : RA) : Prop where
  pk : PK X es t
  sim : ∀ (σ : L2.St) (H : Hp) (ρ : EN) (τ : List (V × W)) (Q : List V → Hp → Prop) (k : List D → EN → Prop), Rel X.K B σ H ρ τ → r ρ k →
    (∀ ds ρ' vs H' S ow, k ds ρ' → RelS X.K B S ow σ H' ρ' τ → RpA X.K S B.z H' vs ds → Q vs H') → t σ H Q
section
variable {X : Cx} {B : Bs} {e : Expr} {te : TE} {re : RE} {es : List Expr} {kws : List Keyword} {t tk : TA} {ra rk : RA} {nm : Option Str} {kpos p pos : Pos} {x : Str}
theorem dk_nil : DK X B [] tNil rNil := ⟨pk_nil, fun σ H ρ τ Q k ⟨S, ow, R⟩ q f => f _ _ _ H S ow q R .nil⟩
theorem dk_cons (he : DE X B e te re) (hr : DK X B kws tk rk) : DK X B (⟨nm, e, kpos⟩ :: kws) (tCons te tk) (rCons re rk) :=
  ⟨pk_cons he.pe hr.pk, fun σ H ρ τ Q k R q f => he.sim σ H ρ τ _ _ R q fun w ρ1 v H1 q1 R1 => hr.sim σ H1 ρ1 _ _ _ R1 q1 fun ds ρ2 vs H2 S ow q2 R2 r2 => by
    obtain ⟨S', ow', R3, hv, hs⟩ := R2.frzTop
    exact f _ _ _ H2 S' ow' q2 R3 (.cons hv (RpA.mono hs (fun _ _ e _ => e) r2))⟩
/-- x makes instances of C: n positional values, keywords ks; gD: the values in the order of names -/
structure CalK (P : Program) (w : World) (K : PySem.W.Frag) (mg : Str → Option Value) (base : Heap) (k : Nat) (x : Str) (C : Addr) (names : List Str) (n : Nat) (ks : List Str) (gD : List D → List D → List D) : Prop where
  ex : ∃ (f : Addr) (fd : FuncData) (ps : List Str) (g : List Value → List Value → List Value) (gV : List V → List V → List V), Mk K C f ∧ FnOk P w K mg base (L2N.CX P w) k f fd ps (spIns C names) ∧ mg x = some (.ref C) ∧ KBn K fd ps (n + 1) ks g gV ∧
    ∀ a vs zs, vs.length = n → zs.length = ks.length → ∃ ws, gV (.ref a :: vs) zs = .ref a :: ws ∧ ws.length = names.length ∧ ∀ S z H ds es, RpA K S z H vs ds → RpA K S z H zs es → RpA K S z H ws (gD ds es)
def rMakeK (C : Addr) (names : List Str) (n m : Nat) (gD : List D → List D → List D) (ra rk : RA) : RE := fun ρ k => ra ρ fun ds ρ1 => rk ρ1 fun es ρ2 => ds.length = n ∧ es.length = m ∧ k (.v (.ins C (names.zip (gD ds es)))) ρ2
theorem zip_fst {α β : Type} : ∀ {xs : List α} {ys : List β}, ys.length = xs.length → (xs.zip ys).map (·.1) = xs
  | [], _, _ => rfl
  | x :: xs, [], h => by cases h
  | x :: xs, y :: ys, h => by
    show x :: (xs.zip ys).map (·.1) = x :: xs
    rw [zip_fst (by simpa using h)]
theorem zip_snd {α β : Type} : ∀ {xs : List α} {ys : List β}, ys.length = xs.length → (xs.zip ys).map (·.2) = ys
  | [], [], _ => rfl
  | [], y :: ys, h => by cases h
  | x :: xs, [], h => by cases h
  | x :: xs, y :: ys, h => by
    show y :: (xs.zip ys).map (·.2) = y :: ys
    rw [zip_snd (by simpa using h)]
/-- C(e, .., k = v, ..) -/
theorem de_makeK {k n : Nat} {C : Addr} {names ks : List Str} {gD : List D → List D → List D} (c : CalK X.prog X.w X.K X.mg X.base k x C names n ks gD) (hr : Room (k + 1) X.A) (ha : DA X B (e :: es) t ra) (hkw : DK X B kws tk rk) (hg : Gl X x := by rfl)
    (hall : (backToKw pos (keywordEach kws X.env)).all (·.1.isSome) = true := by rfl) (hks : (backToKw pos (keywordEach kws X.env)).filterMap (·.1) = ks := by rfl) (hdb : (x == ("__debug__" : Str)) = false := by decide)
    (he : starEach (e :: es) X.env = (false, eval e X.env) :: starEach es X.env := by rfl) (hpl : ((backTo pos (starEach (e :: es) X.env)).any (·.1) || (backToKw pos (keywordEach kws X.env)).any (·.1.isNone)) = false := by rfl) :
    ∃ T, DE X B (.Call (.Name x p) (e :: es) kws pos) T (rMakeK C names n ks.length gD ra rk) := by
  obtain ⟨f, fd, ps, g, gV, M, F, hm, hb, hgV⟩ := c.ex
  refine ⟨_, pe_makeK M F hr hg hm hb passN ha.pa hkw.pk hall hks hdb he hpl, fun σ H ρ τ Q q R h g0 => ha.sim σ H ρ τ _ _ R h fun ds ρ1 vs H1 S1 ow1 h1 R1 r1 => ?_⟩
  refine hkw.sim σ H1 ρ1 (temps vs ds ++ τ) _ _ ⟨S1, ow1, temps_push R1 r1⟩ h1 fun zd ρ2 zs H2 S2 ow2 h2 R2 r2 => ?_
  obtain ⟨l1, l2, h2⟩ := h2
  obtain ⟨rv, R3⟩ := temps_get r1.length R2
  refine ⟨by rw [r1.length]; exact l1, by rw [r2.length]; exact l2, fun a dx ha hdx hne => ?_⟩
  obtain ⟨ws, eg, lw, hrel⟩ := hgV a vs zs (by rw [r1.length]; exact l1) (by rw [r2.length]; exact l2)
  refine ⟨a, dx, ws, eg, upd_same, lw, rfl, ?_⟩
  have e3 : upd (upd (upd H2 dx (.own a)) a (.ins C dx [])) a (.ins C dx (names.zip ws)) = upd (upd H2 dx (.own a)) a (.ins C dx (names.zip ws)) := by
    funext b
    by_cases hb : b = a
    · rw [hb, upd_same, upd_same]
    · rw [upd_ne hb, upd_ne hb, upd_ne hb]
  rw [e3]
  have R4 := R3.keep (keep_new (o := .own a) hdx)
  have ha2 : upd H2 dx (.own a) a = none := by rw [upd_ne (Ne.symm hne)]; exact ha
  have R5 := R4.newShr (p := a) (o := .ins C dx (names.zip ws)) ha2
  have k5 : ∀ b o, H2 b = some o → upd (upd H2 dx (.own a)) a (.ins C dx (names.zip ws)) b = some o := fun b o e => keep_new ha2 _ _ (keep_new hdx _ _ e)
  have rw5 := hrel S2 B.z H2 ds zd rv r2
  have rp : Rp X.K (fun b => S2 b ∨ b = a) B.z (upd (upd H2 dx (.own a)) a (.ins C dx (names.zip ws))) (.ref a) (.ins C (names.zip (gD ds zd))) := by
    have lg : (gD ds zd).length = names.length := by rw [← rw5.length]; exact lw
    refine .ins (.inr rfl) upd_same ?_ ?_
    · rw [zip_fst lw, zip_fst lg]
    · rw [zip_snd lw, zip_snd lg]
      exact RpA.mono (fun _ s => .inl s) (fun b o e _ => k5 b o e) rw5
  exact g0 _ _ _ _ h2 ⟨_, _, R5.push rp⟩
end
end DL

set_option maxHeartbeats 1000000
namespace DL
open PySem PySem.Spec PyProof.Rows L2
section
variable {K : PySem.W.Frag} {S : Addr → Prop} {z : Option (Addr × Addr)} {H : Hp}
mutual
theorem Rp.z0 : ∀ {v : V} {d : D}, Rp K S none H v d → Rp K S z H v d
  | _, _, .non => .non
  | _, _, .bl b => .bl b
  | _, _, .int i => .int i
  | _, _, .str x => .str x
  | _, _, .tup h l r => .tup h l (RpA.z0 r)
  | _, _, .lst s h l r => .lst s h l (RpA.z0 r)
  | _, _, .fz h l r => .fz h l (RpA.z0 r)
  | _, _, .dic s h e r => .dic s h e (RpA.z0 r)
  | _, _, .ins s h e r => .ins s h e (RpA.z0 r)
  | _, _, .sto h => nomatch h
  | _, _, .exc => .exc
  | _, _, .excF s e q r => .excF s e q (RpA.z0 r)
theorem RpA.z0 : ∀ {vs : List V} {ds : List D}, RpA K S none H vs ds → RpA K S z H vs ds
  | _, _, .nil => .nil
  | _, _, .cons h r => .cons (Rp.z0 h) (RpA.z0 r)
end
end
/-- the cells of the store -/
def okCells (cells : List D) : Prop := ∀ d ∈ cells, ∃ p q : Int, d = .tup [.int p, .int q]
/-- the script -/
def okScript (d : D) : Prop := ∃ ns : List Int, d = .lst (ns.map .int) ∨ d = .fz (ns.map .int)
def spLaw (K : PySem.W.Frag) : Sp := fun vs H Q E => ∃ (a : Addr) (ns : List Int), vs = [.ref a] ∧ SqL K H a (ns.map V.int) ∧ ns.length ≤ sizeLine ∧ ∀ H', Q (.bl true) H'
theorem ints_rp {K : PySem.W.Frag} {S : Addr → Prop} {z : Option (Addr × Addr)} {H : Hp} : ∀ ns : List Int, RpA K S z H (ns.map V.int) (ns.map D.int)
  | [] => .nil
  | n :: ns => .cons (.int n) (ints_rp ns)
/-- the list that the name owns is from now on the store -/
theorem RelS.toSto {K : PySem.W.Frag} {B : Bs} {S : Addr → Prop} {ow : Addr → Option Ow} {σ : L2.St} {H : Hp} {d : D} {cells : List D} {i j k l : Int} {n : Nat} (hB : B.z = none) (hc : okCells cells) (h0 : 0 ≤ i)
    (R : RelS K B S ow σ H (some (.v d) :: some (.o [.lst cells, .int i, .int j, .int k, .int l]) :: List.replicate n none) []) :
    ∃ a c, RelS K ⟨H, S, fun _ _ _ _ => False, fun _ _ => False, some (a, c)⟩ S (fun _ => none) σ H (some (.v d) :: some (.v .sto) :: List.replicate n none) [] := by
  obtain ⟨a, vs, h1, h2, h3, h4⟩ := own_at R (i := 1) rfl
  obtain ⟨_, r⟩ := h4
  cases r with
  | cons r0 r =>
    cases r with
    | cons r1 r =>
      cases r with
      | cons r2 r =>
        cases r with
        | cons r3 r =>
          cases r with
          | cons r4 r =>
            cases r
            cases r1; cases r2; cases r3; cases r4
            have hc0 := r0
            cases r0 with
            | @lst c us _ s e hl rr =>
              rw [hB] at hc0
              refine ⟨a, c, {
                s0 := fun _ s => s
                s1 := fun _ s => .inl s
                sz := fun b c' e s => by cases e; exact own_nS R h2 s
                sh := R.sh
                so := fun _ _ => rfl
                oh := fun _ _ e => nomatch e
                oz := fun _ _ _ => rfl
                fr := fun _ _ e _ => e
                zo := fun b c' e => by cases e; exact ⟨i, j, k, l, h3, h0, cells, hc0.z0, hc⟩
                z0 := fun b c' e => by cases e; exact ⟨_, h3⟩
                len := by simpa using R.len
                sl := fun q w e => ?_
                tm := trivial }⟩
              match q, e with
              | 0, e =>
                cases e
                obtain ⟨v, g1, g2⟩ := R.sl 0 (.v d) rfl
                rw [hB] at g2
                exact ⟨v, g1, Rp.z0 g2⟩
              | 1, e =>
                cases e
                exact ⟨_, h1, .sto rfl⟩
              | q + 2, e =>
                exfalso
                have e' : gt (List.replicate n none) q = some w := e
                rw [gt_eq, List.getElem?_replicate] at e'
                split at e' <;> cases e'
abbrev kLaw0 (n : Nat) (d : D) : KD := ⟨fun ρ => ∃ cells i j k l, okCells cells ∧ 0 ≤ i ∧ ρ = some (.v d) :: some (.o [.lst cells, .int i, .int j, .int k, .int l]) :: List.replicate n none, fun _ _ => False, fun _ => False, fun _ => False⟩
abbrev kLaw1 : KD := ⟨fun _ => False, fun w _ => w = .v (.bl true), fun _ => False, fun _ => False⟩
section
variable {P : Program} {w : World} {K : PySem.W.Frag} {mg : Str → Option Value} {base : Heap}
/-- the law: its first line makes the store -/
theorem fn_law {x qual : Str} {params : Arguments} {s0 : Stmt} {ss : List Stmt} {scope : Scope} {dvs : List V} {kws : List (Str × V)} {f : Addr} {fd : FuncData} {N : List Str} {k n : Nat} (F : FunD K x qual params (s0 :: ss) scope dvs kws f fd) (S : FnScope N ["script"] scope) (hn : N.length = n + 2)
    (hb : ∀ (cdv : Value) (A : Around) (outer : List Env) (s : Shared) (H : Hp) (E : XK) (B : Bs), Room k (A.deeper (envOfC qual scope s.heap.objs.size f cdv)) → ∃ t r, DS (cxOf CX0 P w K mg base N qual scope f cdv A outer s H E).nox B s0 t r ∧
      ∀ d, okScript d → r (kLaw0 n d) (startE (n + 2) [d]))
    (hb2 : ∀ (cdv : Value) (A : Around) (outer : List Env) (s : Shared) (H : Hp) (E : XK), Room k (A.deeper (envOfC qual scope s.heap.objs.size f cdv)) → ∃ t : TS, PSs (cxOf CX0 P w K mg base N qual scope f cdv A outer s H E).nox ss t ∧ ∀ B, ∃ r, DSs (cxOf CX0 P w K mg base N qual scope f cdv A outer s H E).nox B ss t r ∧
      ∀ d, okScript d → r kLaw1 (some (.v d) :: some (.v .sto) :: List.replicate n none)) :
    FnOk P w K mg base CX0 (k + 1) f fd ["script"] (spLaw K) := by
  refine F.ok S (fun vs H Q E h => ?_) (fun cdv A outer s H vs Q E hr h => ?_)
  · obtain ⟨a, ns, rfl, _⟩ := h
    rfl
  · obtain ⟨a, ns, rfl, hs, hl, hq⟩ := h
    have hrep : ∃ (S0 : Addr → Prop) (d : D), okScript d ∧ RpA K S0 none H [.ref a] [d] ∧ ∀ b, S0 b → ∃ o, H b = some o := by
      rcases hs with (h1 | ⟨o, h1⟩) | h1
      · exact ⟨fun b => b = a, .lst (ns.map .int), ⟨ns, .inl rfl⟩, .cons (.lst rfl h1 (by simpa using hl) (ints_rp ns)) .nil, fun b e => ⟨_, e ▸ h1⟩⟩
      · exact ⟨fun _ => False, .fz (ns.map .int), ⟨ns, .inr rfl⟩, .cons (.fz (.inl ⟨o, h1⟩) (by simpa using hl) (ints_rp ns)) .nil, fun b e => e.elim⟩
      · exact ⟨fun _ => False, .fz (ns.map .int), ⟨ns, .inr rfl⟩, .cons (.fz (.inr h1) (by simpa using hl) (ints_rp ns)) .nil, fun b e => e.elim⟩
    obtain ⟨S0, d, hd, hrp, hsh⟩ := hrep
    obtain ⟨t0, r0, d0, h0⟩ := hb cdv A outer s H E ⟨H, S0, fun _ _ _ _ => False, fun _ _ => False, none⟩ hr
    obtain ⟨t1, p1, h1⟩ := hb2 cdv A outer s H E hr
    refine ⟨_, (pss_cons d0.ps p1).nox, ?_⟩
    refine d0.sim [] { nx := t1 { nx := fun _ H' => Q .non H', rt := Q }, rt := Q } (kLaw0 n d) ⟨fun σ H' ρ R e => ?_, fun _ _ _ _ e => e.elim, fun _ _ _ _ e => e.elim, fun _ _ _ _ _ _ e => e.elim⟩ _ H _ ⟨S0, _, rel_start (N := N) (by rw [hn]; simp) hrp (fun _ _ e => nomatch e) hsh (fun _ _ e => nomatch e)⟩ (by rw [hn]; exact h0 d hd)
    obtain ⟨cells, i, j, k, l, hc, hi, rfl⟩ := e
    obtain ⟨S1, ow1, R1⟩ := R
    obtain ⟨a', c', R2⟩ := R1.toSto rfl hc hi
    obtain ⟨r1, d1, hr1⟩ := h1 ⟨H', S1, fun _ _ _ _ => False, fun _ _ => False, some (a', c')⟩
    refine d1.sim [] _ kLaw1 ⟨fun _ _ _ _ e => e.elim, fun _ _ _ _ e => e.elim, fun _ _ _ _ e => e.elim, fun v w σ H' ρ R e => ?_⟩ _ _ _ ⟨_, _, R2⟩ (hr1 d hd)
    obtain ⟨S2, ow2, R2⟩ := R
    have e : w = .v (.bl true) := e
    subst e
    have := R2.top.bl
    subst this
    exact hq _
end
end DL

set_option maxHeartbeats 1000000
namespace DL
open PySem PySem.Spec PyProof.Rows L2
section
variable {X : Cx} {B : Bs} {e : Expr} {te : TE} {re : RE} {y : Str} {py apos cpos : Pos}
theorem de_app (i : Nat) (hp : PE X (.Name y py) (tVar i)) (he : DE X B e te re) (hbase : attributeBase (.Name y py) "append" X.env (eval (.Name y py) X.env) = eval (.Name y py) X.env := by rfl)
    (hfew : ((backTo cpos (starEach [e] X.env)).all (fun x => !x.1) && (backToKw cpos (keywordEach [] X.env)).all (fun x => x.1.isSome) && decide (([e] : List Expr).length + ([] : List Keyword).length + (if ([] : List Keyword).isEmpty then 0 else 1) < 30)) = true := by rfl)
    (hline : (apos.endLine == cpos.line) = true := by rfl) (hs : starEach [e] X.env = (false, eval e X.env) :: starEach [] X.env := by rfl) (hplain : (backTo cpos (starEach [] X.env)).any (·.1) = false := by rfl) :
    DE X B (.Call (.Attribute (.Name y py) "append" apos) [e] [] cpos) (tBM X.K "list" rAppend (tVar i) (tCons te tNil)) (rApp i re) :=
  de_append1 i hp he (pe_bm PySem.F.plainAttrs_list PySem.F.slot_list_append PySem.F.type_list_append mt_append hp (pa_cons he.pe pa_nil hs) hbase hfew hline hs hplain)
theorem de_ext (i : Nat) (hp : PE X (.Name y py) (tVar i)) (he : DE X B e te re) (hbase : attributeBase (.Name y py) "extend" X.env (eval (.Name y py) X.env) = eval (.Name y py) X.env := by rfl)
    (hfew : ((backTo cpos (starEach [e] X.env)).all (fun x => !x.1) && (backToKw cpos (keywordEach [] X.env)).all (fun x => x.1.isSome) && decide (([e] : List Expr).length + ([] : List Keyword).length + (if ([] : List Keyword).isEmpty then 0 else 1) < 30)) = true := by rfl)
    (hline : (apos.endLine == cpos.line) = true := by rfl) (hs : starEach [e] X.env = (false, eval e X.env) :: starEach [] X.env := by rfl) (hplain : (backTo cpos (starEach [] X.env)).any (·.1) = false := by rfl) :
    DE X B (.Call (.Attribute (.Name y py) "extend" apos) [e] [] cpos) (tBM X.K "list" rExtend (tVar i) (tCons te tNil)) (rExt i re) :=
  de_extend1 i hp he (pe_bm PySem.F.plainAttrs_list PySem.F.slot_list_extend PySem.F.type_list_extend mt_extend hp (pa_cons he.pe pa_nil hs) hbase hfew hline hs hplain)
theorem de_popAt (i : Nat) (hp : PE X (.Name y py) (tVar i)) (he : DE X B e te re) (hbase : attributeBase (.Name y py) "pop" X.env (eval (.Name y py) X.env) = eval (.Name y py) X.env := by rfl)
    (hfew : ((backTo cpos (starEach [e] X.env)).all (fun x => !x.1) && (backToKw cpos (keywordEach [] X.env)).all (fun x => x.1.isSome) && decide (([e] : List Expr).length + ([] : List Keyword).length + (if ([] : List Keyword).isEmpty then 0 else 1) < 30)) = true := by rfl)
    (hline : (apos.endLine == cpos.line) = true := by rfl) (hs : starEach [e] X.env = (false, eval e X.env) :: starEach [] X.env := by rfl) (hplain : (backTo cpos (starEach [] X.env)).any (·.1) = false := by rfl) :
    DE X B (.Call (.Attribute (.Name y py) "pop" apos) [e] [] cpos) (tBM X.K "list" rPopAt (tVar i) (tCons te tNil)) (rPop1 i re) :=
  de_pop1 i hp he (pe_bm PySem.F.plainAttrs_list PySem.F.slot_list_pop PySem.F.type_list_pop mt_popAt hp (pa_cons he.pe pa_nil hs) hbase hfew hline hs hplain)
theorem de_pop (i : Nat) (hp : PE X (.Name y py) (tVar i)) (hbase : attributeBase (.Name y py) "pop" X.env (eval (.Name y py) X.env) = eval (.Name y py) X.env := by rfl) (hline : (apos.endLine == cpos.line) = true := by rfl) :
    DE X B (.Call (.Attribute (.Name y py) "pop" apos) [] [] cpos) (tBM0 X.K "list" rPop (tVar i)) (rPop0 i) :=
  de_pop0 i hp (pe_bm0 PySem.F.plainAttrs_list PySem.F.slot_list_pop PySem.F.type_list_pop mt_pop hp hbase hline)
/-- a reading kept shut -/
def hide (r : RS) : RS := r
theorem dss_hide {ss : List Stmt} {t : TS} {r : RS} (h : DSs X B ss t r) : DSs X B ss t (hide r) := h
end
section
variable {P : Program} {w : World} {K : PySem.W.Frag} {mg : Str → Option Value} {base : Heap}
/-- a def that may raise, or that tries -/
theorem fn_okX {x qual : Str} {params : Arguments} {body : List Stmt} {scope : Scope} {dvs : List V} {kws : List (Str × V)} {f : Addr} {fd : FuncData} {N ps : List Str} {k : Nat} {sp : SpD}
    (F : FunD K x qual params body scope dvs kws f fd) (S : FnScope N ps scope) (hl : ∀ ds q x, sp ds q x → ds.length = ps.length)
    (hbody : ∀ (cdv : Value) (A : Around) (outer : List Env) (s : Shared) (H : Hp) (E : XK) (B : Bs) (x : Ex → Prop), B.xk = (fun e _ => x e) → Valid (cxOf (L2N.CX P w) P w K mg base N qual scope f cdv A outer s H E) B → Room k (A.deeper (envOfC qual scope s.heap.objs.size f cdv)) →
      ∃ t r, DSs0 (cxOf (L2N.CX P w) P w K mg base N qual scope f cdv A outer s H E) B body t r ∧ ∀ ds q, sp ds q x → r ⟨fun _ => q (.v .non), fun w _ => q w, fun _ => False, fun _ => False⟩ (startE N.length ds)) :
    FnOk P w K mg base (L2N.CX P w) (k + 1) f fd ps (lift K sp) := by
  refine F.ok S (fun vs H Q E h => ?_) (fun cdv A outer s H vs Q E hr h => ?_)
  · obtain ⟨ds, S, z, q, x, r, _, _, _, h, _⟩ := h
    rw [r.length]
    exact hl _ _ _ h
  · obtain ⟨ds, S0, z, q, x, r, hz, sh, zo, h, g, gx⟩ := h
    obtain ⟨t, rd, d, hd⟩ := hbody cdv A outer s H E ⟨H, S0, fun cls d _ H => E cls d H, fun e _ => x e, z⟩ x rfl ⟨L2N.takes_of rfl rfl rfl rfl, fun e cls od σ H' ρ S' ow R rx hx => gx e cls od H' S' hx R.left rx⟩ hr
    refine ⟨t, d.ps, ?_⟩
    have hn : ds.length ≤ N.length := by
      have h1 := hl _ _ _ h
      have h2 := congrArg List.length S.pre
      rw [List.length_take] at h2
      omega
    refine d.sim { nx := fun _ H' => Q .non H', rt := Q } ⟨fun _ => q (.v .non), fun w _ => q w, fun _ => False, fun _ => False⟩ ⟨?_, fun _ _ _ _ e => e.elim, fun _ _ _ _ e => e.elim, ?_⟩ _ H _ ⟨S0, _, rel_start hn r hz sh zo⟩ (hd ds q h)
    · rintro σ H' ρ ⟨S, ow, R⟩ e
      exact g _ _ _ S e R.left .non
    · rintro v w σ H' ρ ⟨S, ow, R⟩ e
      exact g _ _ _ S e R.left R.rr
end
end DL

set_option maxHeartbeats 1000000
namespace DL
open PySem PySem.Spec PyProof.Rows L2
section
variable {X : Cx} {B : Bs} {x : Str} {p pos : Pos} {e : Expr} {es : List Expr} {kws : List Keyword} {t tk : TA} {ra rk : RA} {k : Nat} {sp : SpD} {dvs : List V} {dds : List D}
theorem hide_eq {r : RS} : hide r = r := rfl
/-- f(..) inside a comprehension -/
theorem de_callB (K : PySem.W.Frag) (hK : X.K = K) (c : Cal X.prog X.w K X.mg X.base k x sp dvs dds) (hr : Room k X.A) (ha : DA X B (e :: es) t ra) (hg : Gl X x := by rfl)
    (hdb : (x == ("__debug__" : Str)) = false := by decide) (he : starEach (e :: es) X.env = (false, eval e X.env) :: starEach es X.env := by rfl) (hpl : (backTo pos (starEach es X.env)).any (·.1) = false := by rfl) :
    DE X B (.Call (.Name x p) (e :: es) [] pos) (tCall (lift K sp) dvs E0 t) (rCall sp dds ra) := by
  subst hK
  exact de_call c hr ha hg hdb he hpl
end
structure CalKV (P : Program) (w : World) (K : PySem.W.Frag) (mg : Str → Option Value) (base : Heap) (k : Nat) (x : Str) (C : Addr) (names : List Str) (n : Nat) (ks : List Str) (gD : List D → List D → List D) (gV : List V → List V → List V) : Prop where
  ex : ∃ (f : Addr) (fd : FuncData) (ps : List Str) (g : List Value → List Value → List Value), Mk K C f ∧ FnOk P w K mg base (L2N.CX P w) k f fd ps (spIns C names) ∧ mg x = some (.ref C) ∧ KBn K fd ps (n + 1) ks g gV ∧
    ∀ a vs zs, vs.length = n → zs.length = ks.length → ∃ ws, gV (.ref a :: vs) zs = .ref a :: ws ∧ ws.length = names.length ∧ ∀ S z H ds es, RpA K S z H vs ds → RpA K S z H zs es → RpA K S z H ws (gD ds es)
theorem CalK.v {P : Program} {w : World} {K : PySem.W.Frag} {mg : Str → Option Value} {base : Heap} {k : Nat} {x : Str} {C : Addr} {names : List Str} {n : Nat} {ks : List Str} {gD : List D → List D → List D} (c : CalK P w K mg base k x C names n ks gD) : ∃ gV, CalKV P w K mg base k x C names n ks gD gV := by
  obtain ⟨f, fd, ps, g, gV, h⟩ := c.ex
  exact ⟨gV, f, fd, ps, g, h⟩
section
variable {X : Cx} {B : Bs} {x : Str} {p pos : Pos} {e : Expr} {es : List Expr} {kws : List Keyword} {t tk : TA} {ra rk : RA} {k : Nat}
/-- C(e, .., k = v, ..), the same road for every store -/
theorem de_makeKB {n : Nat} {C : Addr} {names ks : List Str} {gD : List D → List D → List D} {gV : List V → List V → List V} (c : CalKV X.prog X.w X.K X.mg X.base k x C names n ks gD gV) (hr : Room (k + 1) X.A) (ha : DA X B (e :: es) t ra) (hkw : DK X B kws tk rk) (hg : Gl X x := by rfl)
    (hall : (backToKw pos (keywordEach kws X.env)).all (·.1.isSome) = true := by rfl) (hks : (backToKw pos (keywordEach kws X.env)).filterMap (·.1) = ks := by rfl) (hdb : (x == ("__debug__" : Str)) = false := by decide)
    (he : starEach (e :: es) X.env = (false, eval e X.env) :: starEach es X.env := by rfl) (hpl : ((backTo pos (starEach (e :: es) X.env)).any (·.1) || (backToKw pos (keywordEach kws X.env)).any (·.1.isNone)) = false := by rfl) :
    DE X B (.Call (.Name x p) (e :: es) kws pos) (tMakeK C n ks.length (spIns C names) gV E0 t tk) (rMakeK C names n ks.length gD ra rk) := by
  obtain ⟨f, fd, ps, g, M, F, hm, hb, hgV⟩ := c.ex
  refine ⟨pe_makeK M F hr hg hm hb passN ha.pa hkw.pk hall hks hdb he hpl, fun σ H ρ τ Q q R h g0 => ha.sim σ H ρ τ _ _ R h fun ds ρ1 vs H1 S1 ow1 h1 R1 r1 => ?_⟩
  refine hkw.sim σ H1 ρ1 (temps vs ds ++ τ) _ _ ⟨S1, ow1, temps_push R1 r1⟩ h1 fun zd ρ2 zs H2 S2 ow2 h2 R2 r2 => ?_
  obtain ⟨l1, l2, h2⟩ := h2
  obtain ⟨rv, R3⟩ := temps_get r1.length R2
  refine ⟨by rw [r1.length]; exact l1, by rw [r2.length]; exact l2, fun a dx ha hdx hne => ?_⟩
  obtain ⟨ws, eg, lw, hrel⟩ := hgV a vs zs (by rw [r1.length]; exact l1) (by rw [r2.length]; exact l2)
  refine ⟨a, dx, ws, eg, upd_same, lw, rfl, ?_⟩
  have e3 : upd (upd (upd H2 dx (.own a)) a (.ins C dx [])) a (.ins C dx (names.zip ws)) = upd (upd H2 dx (.own a)) a (.ins C dx (names.zip ws)) := by
    funext b
    by_cases hb : b = a
    · rw [hb, upd_same, upd_same]
    · rw [upd_ne hb, upd_ne hb, upd_ne hb]
  rw [e3]
  have R4 := R3.keep (keep_new (o := .own a) hdx)
  have ha2 : upd H2 dx (.own a) a = none := by rw [upd_ne (Ne.symm hne)]; exact ha
  have R5 := R4.newShr (p := a) (o := .ins C dx (names.zip ws)) ha2
  have k5 : ∀ b o, H2 b = some o → upd (upd H2 dx (.own a)) a (.ins C dx (names.zip ws)) b = some o := fun b o e => keep_new ha2 _ _ (keep_new hdx _ _ e)
  have rw5 := hrel S2 B.z H2 ds zd rv r2
  have rp : Rp X.K (fun b => S2 b ∨ b = a) B.z (upd (upd H2 dx (.own a)) a (.ins C dx (names.zip ws))) (.ref a) (.ins C (names.zip (gD ds zd))) := by
    have lg : (gD ds zd).length = names.length := by rw [← rw5.length]; exact lw
    refine .ins (.inr rfl) upd_same ?_ ?_
    · rw [zip_fst lw, zip_fst lg]
    · rw [zip_snd lw, zip_snd lg]
      exact RpA.mono (fun _ s => .inl s) (fun b o e _ => k5 b o e) rw5
  exact g0 _ _ _ _ h2 ⟨_, _, R5.push rp⟩
end
section
variable {P : Program} {w : World} {K : PySem.W.Frag} {mg : Str → Option Value} {base : Heap}
/-- a def with defaults, called with every parameter written -/
theorem Cal.ofD {x qual : Str} {params : Arguments} {body : List Stmt} {scope : Scope} {dvs : List V} {f : Addr} {fd : FuncData} {ps : List Str} {k : Nat} {sp : SpD} (hd : dvs ≠ [])
    (F : FunD K x qual params body scope dvs [] f fd) (o : FnOk P w K mg base (L2N.CX P w) k f fd ps (lift K sp)) (hm : mg x = some (.ref f))
    (h : ∀ (T : Addr) (kV doc pm : Value) (an : Option Addr) (cdv ct : Value) (us its : List Value), us.length = ps.length → its.length = dvs.length →
      ∃ k, bindArgs (PySem.W.fnOf x qual params body scope (.ref T) kV doc pm an cdv ct) ⟨us, []⟩ = seqItems? (.ref T) >>= k ∧ k (some its.toArray) = pure (ps.zip us)) : Cal P w K mg base k x sp [] [] := by
  obtain ⟨ds, r, b⟩ := F.binds1 (ps := ps) ps.length dvs.length hd (by omega) fun T kV doc pm an cdv ct us its h1 h2 => by
    obtain ⟨k, e1, e2⟩ := h T kV doc pm an cdv ct us its h1 h2
    refine ⟨k, e1, ?_⟩
    rw [List.drop_eq_nil_of_le (show its.length ≤ dvs.length by omega), List.append_nil]
    exact e2
  rw [List.drop_eq_nil_of_le (Nat.le_refl _)] at r
  cases r
  exact ⟨f, fd, ps, [], o, hm, F.kp, b, .nil, fun _ _ _ => .nil⟩
/-- a def that an except suite calls -/
theorem CalE.of {x qual : Str} {params : Arguments} {body : List Stmt} {scope : Scope} {kws : List (Str × V)} {f : Addr} {fd : FuncData} {ps : List Str} {k : Nat} {okC : Value → Option Addr → Prop} {sp : Addr → Value → SpD}
    (F : FunD K x qual params body scope [] kws f fd) (o : FnE P w K mg base k f fd ps (liftE K okC sp)) (hm : mg x = some (.ref f))
    (h : ∀ (kV doc pm : Value) (an : Option Addr) (cdv ct : Value) (us : List Value), us.length = ps.length → bindArgs (PySem.W.fnOf x qual params body scope .none kV doc pm an cdv ct) ⟨us, []⟩ = pure (ps.zip us)) : CalE P w K mg base k x okC sp :=
  ⟨f, fd, ps, o, hm, F.kp, F.bindsN h⟩
end
end DL

set_option maxHeartbeats 1000000
namespace M
open PySem DL
theorem log2_of {n k : Nat} (h : n < 2 ^ k) (hk : 0 < k) : n.log2 < k := by
  by_cases hn : n = 0
  · subst hn
    simpa using hk
  · exact (Nat.log2_lt hn).mpr h
theorem gcd_step {x y : Nat} : Nat.gcd y (x % y) = Nat.gcd x y := by
  rw [Nat.gcd_comm x y, Nat.gcd_rec y x, Nat.gcd_comm]
theorem fdOk {a b : Nat} (hb : 0 < b) (h : b.log2 < 9000 ∨ a.log2 < 13000) : FdOk (a : Int) (b : Int) := by
  refine ⟨by omega, ?_⟩
  rw [Int.natAbs_natCast, Int.natAbs_natCast]
  exact h
theorem mulOk {a b : Nat} {k l : Nat} (ha : a < 2 ^ k) (hb : b < 2 ^ l) (hk : 0 < k) (hl : 0 < l) (h : k + l ≤ 1000000) : MulOk (a : Int) (b : Int) := by
  refine .inr (.inr ?_)
  rw [Int.natAbs_natCast, Int.natAbs_natCast]
  have := log2_of ha hk
  have := log2_of hb hl
  omega
/-! ### powers -/
theorem pow_lt2 {n L e : Nat} (h : n < 2 ^ L) : n ^ e < 2 ^ (L * e + 1) := by
  calc n ^ e ≤ (2 ^ L) ^ e := Nat.pow_le_pow_left (Nat.le_of_lt h) e
    _ = 2 ^ (L * e) := (Nat.pow_mul 2 L e).symm
    _ < 2 ^ (L * e + 1) := Nat.pow_lt_pow_right (by decide) (Nat.lt_succ_self _)
theorem le_pow {n e : Nat} (hn : 1 ≤ n) (he : 1 ≤ e) : n ≤ n ^ e := by
  calc n = n ^ 1 := (Nat.pow_one n).symm
    _ ≤ n ^ e := Nat.pow_le_pow_right hn he
/-- the step of the loop: n ^ e = (n ^ 2) ^ (e / 2) * n ^ (e % 2) -/
theorem pow_half (n e : Nat) : n ^ e = (n * n) ^ (e / 2) * n ^ (e % 2) := by
  have h : n * n = n ^ 2 := (Nat.pow_two n).symm
  rw [h, ← Nat.pow_mul, ← Nat.pow_add, Nat.div_add_mod]
/-! ### roots -/
/-- x ^ (e - 1) * (e m - (e - 1) x) ≤ m ^ e -/
theorem bern (x m : Int) (hx : 0 ≤ x) (hm : 0 ≤ m) : ∀ e : Nat, x ^ e * ((e + 1 : Int) * m - e * x) ≤ m ^ (e + 1)
  | 0 => by simp [Int.pow_succ]
  | e + 1 => by
    have ih := bern x m hx hm e
    have h1 : (x ^ e * ((e + 1 : Int) * m - e * x)) * m ≤ m ^ (e + 1) * m := Int.mul_le_mul_of_nonneg_right ih hm
    have h2 : x ^ (e + 1) * (((e + 1 : Nat) + 1 : Int) * m - ((e + 1 : Nat) : Int) * x) ≤ (x ^ e * ((e + 1 : Int) * m - e * x)) * m := by
      have hp : 0 ≤ x ^ e := Int.pow_nonneg hx
      have key : (x ^ e * ((e + 1 : Int) * m - e * x)) * m - x ^ (e + 1) * (((e + 1 : Nat) + 1 : Int) * m - ((e + 1 : Nat) : Int) * x) = x ^ e * ((e + 1 : Int) * ((m - x) * (m - x))) := by
        rw [Int.pow_succ]
        push_cast
        generalize x ^ e = p
        generalize (e : Int) = f
        grind
      have hs : 0 ≤ (m - x) * (m - x) := by
        rcases Int.le_total 0 (m - x) with h | h
        · exact Int.mul_nonneg h h
        · exact Int.mul_nonneg_of_nonpos_of_nonpos h h
      have : 0 ≤ x ^ e * ((e + 1 : Int) * ((m - x) * (m - x))) := Int.mul_nonneg hp (Int.mul_nonneg (by omega) hs)
      omega
    calc _ ≤ _ := h2
      _ ≤ _ := h1
      _ = m ^ (e + 1 + 1) := (Int.pow_succ m (e + 1)).symm
/-- Newton's step stays above the root -/
theorem newton_up {T x e : Nat} (hx : 1 ≤ x) (he : 1 ≤ e) : T < (((e - 1) * x + T / x ^ (e - 1)) / e + 1) ^ e := by
  obtain ⟨f, rfl⟩ : ∃ f, e = f + 1 := ⟨e - 1, by omega⟩
  simp only [Nat.add_sub_cancel]
  generalize hm : (f * x + T / x ^ f) / (f + 1) + 1 = m
  have h1 : f * x + T / x ^ f < m * (f + 1) := by
    rw [← hm]
    have := Nat.lt_div_mul_add (a := f * x + T / x ^ f) (b := f + 1) (by omega)
    have e1 : ((f * x + T / x ^ f) / (f + 1) + 1) * (f + 1) = (f * x + T / x ^ f) / (f + 1) * (f + 1) + (f + 1) := by rw [Nat.add_mul]; simp
    omega
  have hp : 0 < x ^ f := Nat.pow_pos hx
  have h2 : T < x ^ f * (T / x ^ f + 1) := by
    have := Nat.div_add_mod T (x ^ f)
    have := Nat.mod_lt T hp
    rw [Nat.mul_add]
    omega
  have h3 := bern (x : Int) (m : Int) (by omega) (by omega) f
  have h4 : T / x ^ f + 1 + f * x ≤ m * (f + 1) := by omega
  have h5 : ((x ^ f * (T / x ^ f + 1) : Nat) : Int) ≤ (x : Int) ^ f * ((f + 1 : Int) * m - f * x) := by
    push_cast
    refine Int.mul_le_mul_of_nonneg_left ?_ (Int.pow_nonneg (by omega))
    have h6 : ((T / x ^ f + 1 + f * x : Nat) : Int) ≤ ((m * (f + 1) : Nat) : Int) := by exact_mod_cast h4
    push_cast at h6
    have : (m : Int) * (f + 1) = (f + 1) * m := Int.mul_comm _ _
    omega
  have h7 : (T : Int) < ((m ^ (f + 1) : Nat) : Int) := by
    push_cast
    calc (T : Int) < ((x ^ f * (T / x ^ f + 1) : Nat) : Int) := by exact_mod_cast h2
      _ ≤ _ := h5
      _ ≤ _ := h3
  exact_mod_cast h7
/-- where it no longer falls it stands at the root -/
theorem newton_stop {T x e : Nat} (hx : 1 ≤ x) (he : 1 ≤ e) (h : x ≤ ((e - 1) * x + T / x ^ (e - 1)) / e) : x ^ e ≤ T := by
  obtain ⟨f, rfl⟩ : ∃ f, e = f + 1 := ⟨e - 1, by omega⟩
  simp only [Nat.add_sub_cancel] at h
  have h1 : x * (f + 1) ≤ f * x + T / x ^ f := (Nat.le_div_iff_mul_le (by omega)).mp h
  have h2 : x ≤ T / x ^ f := by
    have : x * (f + 1) = f * x + x := by rw [Nat.mul_add, Nat.mul_comm]; simp
    omega
  have h3 : x * x ^ f ≤ T := (Nat.le_div_iff_mul_le (Nat.pow_pos hx)).mp h2
  rw [Nat.pow_succ, Nat.mul_comm]
  exact h3
/-- the answer: the least number whose high-th power reaches above ^ low / below ^ low -/
def Least (a b hi lo n : Nat) : Prop := 1 ≤ n ∧ a ^ lo ≤ n ^ hi * b ^ lo ∧ (n = 1 ∨ (n - 1) ^ hi * b ^ lo < a ^ lo)
theorem Least.le {a b hi lo n m : Nat} (h : Least a b hi lo n) (hm : 1 ≤ m) (g : a ^ lo ≤ m ^ hi * b ^ lo) : n ≤ m := by
  obtain ⟨h1, h2, h3⟩ := h
  rcases h3 with h3 | h3
  · omega
  · refine Nat.le_of_not_lt fun hlt => ?_
    have h4 : m ^ hi ≤ (n - 1) ^ hi := Nat.pow_le_pow_left (by omega) hi
    have h5 : m ^ hi * b ^ lo ≤ (n - 1) ^ hi * b ^ lo := Nat.mul_le_mul_right _ h4
    omega
theorem Least.eq {a b hi lo n m : Nat} (h : Least a b hi lo n) (g : Least a b hi lo m) : n = m := Nat.le_antisymm (h.le g.1 g.2.1) (g.le h.1 h.2.1)
/-- the root, rounded up -/
def RootUp (T e r : Nat) : Prop := 1 ≤ r ∧ T ≤ r ^ e ∧ (r = 1 ∨ (r - 1) ^ e < T)
theorem ceil_le {A B x : Nat} (hB : 0 < B) : (A + B - 1) / B ≤ x ↔ A ≤ x * B := by
  rw [Nat.div_le_iff_le_mul_add_pred hB]
  constructor <;> intro h <;> first | (have := Nat.mul_comm B x; omega)
theorem least_of {a b hi lo r : Nat} (hb : 0 < b) (h : RootUp ((a ^ lo + b ^ lo - 1) / b ^ lo) hi r) : Least a b hi lo r := by
  have hB : 0 < b ^ lo := Nat.pow_pos hb
  obtain ⟨h1, h2, h3⟩ := h
  refine ⟨h1, (ceil_le hB).mp h2, h3.imp id fun h3 => ?_⟩
  refine Nat.lt_of_not_le fun h4 => ?_
  have := (ceil_le hB).mpr h4
  omega
theorem bit_bound {a b hi lo n A : Nat} (h : Least a b hi lo n) (hb : 1 ≤ b) (hA : a < 2 ^ A) (hAl : A * lo ≤ 10500) (hhi : hi ≤ 1000) : n.log2 * hi ≤ 11500 := by
  have l1 : Nat.log2 1 = 0 := by
    have : Nat.log2 1 < 1 := log2_of (by decide) (by decide)
    omega
  obtain ⟨h1, _, h3⟩ := h
  rcases h3 with h3 | h3
  · subst h3
    rw [l1]
    omega
  · by_cases hn : n = 1
    · subst hn
      rw [l1]
      omega
    have hB : 1 ≤ b ^ lo := Nat.pow_pos hb
    have h4 : (n - 1) ^ hi < 2 ^ (A * lo + 1) := by
      refine Nat.lt_of_le_of_lt ?_ (pow_lt2 (e := lo) hA)
      refine Nat.le_trans (Nat.le_mul_of_pos_right _ hB) (Nat.le_of_lt h3)
    have h5 : (2 ^ (n - 1).log2) ^ hi ≤ (n - 1) ^ hi := Nat.pow_le_pow_left (Nat.log2_self_le (by omega)) hi
    rw [← Nat.pow_mul] at h5
    have h6 : (n - 1).log2 * hi < A * lo + 1 := (Nat.pow_lt_pow_iff_right (by decide)).mp (Nat.lt_of_le_of_lt h5 h4)
    have h7 : n.log2 ≤ (n - 1).log2 + 1 := by
      have h8 : n - 1 < 2 ^ ((n - 1).log2 + 1) := Nat.lt_log2_self
      have h9 : n < 2 ^ ((n - 1).log2 + 2) := by
        have : 2 ^ ((n - 1).log2 + 2) = 2 ^ ((n - 1).log2 + 1) * 2 := Nat.pow_succ ..
        have : 0 < 2 ^ ((n - 1).log2 + 1) := Nat.two_pow_pos _
        omega
      have := log2_of h9 (by omega)
      omega
    have h10 : n.log2 * hi ≤ ((n - 1).log2 + 1) * hi := Nat.mul_le_mul_right _ h7
    rw [Nat.add_mul] at h10
    omega
theorem least_one {a b hi lo : Nat} (h : a ≤ b) : Least a b hi lo 1 := ⟨Nat.le_refl 1, by rw [Nat.one_pow, Nat.one_mul]; exact Nat.pow_le_pow_left h lo, .inl rfl⟩
theorem neg_ceil {A B : Nat} (hB : 0 < B) : -((-(A : Int)) / (B : Int)) = (((A + B - 1) / B : Nat) : Int) := by
  have h := Nat.div_add_mod (A + B - 1) B
  have h2 := Nat.mod_lt (A + B - 1) hB
  have h0 : (-(A : Int)) / (B : Int) = -(((A + B - 1) / B : Nat) : Int) := by
    rw [Int.ediv_eq_iff_of_pos (by omega)]
    generalize (A + B - 1) / B = q at *
    generalize (A + B - 1) % B = r at *
    have h3 : ((B * q + r : Nat) : Int) = ((A + B - 1 : Nat) : Int) := by exact_mod_cast h
    push_cast at h3
    have h4 : ((A + B - 1 : Nat) : Int) = A + B - 1 := by omega
    have e1 : -(q : Int) * (B : Int) = -((B : Int) * q) := by grind
    have e2 : (-(q : Int) + 1) * (B : Int) = -((B : Int) * q) + B := by grind
    rw [e1]
    have e5 : ((A + B - 1 : Nat) : Int) = (A : Int) + B - 1 := by omega
    have h6 : (r : Int) < B := by omega
    constructor <;> omega
  omega
end M

set_option maxHeartbeats 2000000
set_option exponentiation.threshold 200000
namespace Cl
open PySem PySem.Spec L2 DL M
def top (i : Nat) : Stmt := PySem.Challenge.pw_growsnofaster_k16_least_where.main.body.getD i (.Pass ⟨0, 0, 0, 0⟩)
abbrev s_common_divisor : Stmt := top 24
abbrev s_frac : Stmt := top 25
abbrev s_over : Stmt := top 26
abbrev s_ceil_of : Stmt := top 27
abbrev s_raised : Stmt := top 31
abbrev s_root_down : Stmt := top 32
abbrev s_root_up : Stmt := top 33
abbrev s_from_where : Stmt := top 34
abbrev s__law_store : Stmt := top 36
abbrev s__law_take : Stmt := top 37
abbrev s__law_chance : Stmt := top 38
abbrev s__law_pick : Stmt := top 39
abbrev s__law_gcd : Stmt := top 40
abbrev s__law_frac : Stmt := top 41
abbrev s__law_mul : Stmt := top 42
abbrev s__law_div : Stmt := top 43
abbrev s__law_pow : Stmt := top 44
abbrev s__law_only : Stmt := top 45
abbrev s__law_like : Stmt := top 46
abbrev s__law_fraction : Stmt := top 47
abbrev s__law_world : Stmt := top 48
abbrev s__law_least : Stmt := top 49
abbrev s__law_refused : Stmt := top 50
abbrev s__law_made : Stmt := top 51
abbrev s_law : Stmt := top 52
local macro_rules | `(tactic| walk_at "d") => `(tactic| dsimp only [rSeq, rSet, rUn, rVar, rMov, rC, rBin, rBinP', rBinP, rCall, rCons, rNil, rTup, rLst, rIf, rRet, rRetN, rVal, rTru, rNot, rAnd, rOr, rAndV, rOrV, gNot, rIfE, rNext, rBreak, rCont, rDrop, rPar, rFor, gt, st, frz, gAdd, DL.gSub, gMul, gFdiv, gMod, gPow, gShr, gShl, gAnd, gNeg, gLt, gLe, gGt, gGe, gEq, gNe, okW, eqW, gAbs, gInt, gLen, wipeE, sgName, sgTup, sgCons, sgNil, rAsg, startE, List.length, rPk, gIsB, gNotB, isN, rIsN, rNotN, rMax2, rMin2, rNever, gBits, List.append_nil, rSto, rStoSet, rStoIf, rApp, rPop0, isOwn, rSl, rSlP, rNoPart, rPart, gCut, itL, gFld, rRaise, rMk0, rMakeK, rCnt, gCnt, gIx, gIsi, tyW, rIsX])
theorem at0 {α : Type} (x : α) (xs : List α) : L2.atI (x :: xs) 0 = some x := by unfold L2.atI ixN; rw [if_pos (by decide), if_pos (by simp only [List.length_cons]; omega)]; rfl
theorem at1 {α : Type} (x y : α) (xs : List α) : L2.atI (x :: y :: xs) 1 = some y := by unfold L2.atI ixN; rw [if_pos (by decide), if_pos (by simp only [List.length_cons]; omega)]; rfl
theorem at2 {α : Type} (x y z : α) (xs : List α) : L2.atI (x :: y :: z :: xs) 2 = some z := by unfold L2.atI ixN; rw [if_pos (by decide), if_pos (by simp only [List.length_cons]; omega)]; rfl
theorem at3 {α : Type} (x y z u : α) (xs : List α) : L2.atI (x :: y :: z :: u :: xs) 3 = some u := by unfold L2.atI ixN; rw [if_pos (by decide), if_pos (by simp only [List.length_cons]; omega)]; rfl
theorem band1 (y : Nat) : Builtin.bitAnd (y : Int) 1 = ((y % 2 : Nat) : Int) := by
  have h := Bits.bitAnd_mask (x := (y : Int)) 1 (by omega)
  rw [show (2 : Int) ^ 1 - 1 = 1 from rfl, show (2 : Int) ^ 1 = 2 from rfl] at h
  rw [h]
  omega
theorem half (y : Nat) : (y : Int) / 2 ^ Int.toNat 1 = ((y / 2 : Nat) : Int) := by
  rw [show (2 : Int) ^ Int.toNat 1 = 2 from rfl]
  omega
local macro_rules | `(tactic| walk_at "r") => `(tactic| (try walk_at "d"; try simp only [at0, at1, at2, at3, Option.some.injEq, exists_eq_left', true_and, and_true, Bool.not_eq_true', Bool.not_eq_false', decide_eq_true_eq, decide_eq_false_iff_not, List.append_nil, List.cons_append, List.nil_append]; try walk_at "d"; try simp only [at0, at1, at2, at3, Option.some.injEq, exists_eq_left', true_and, and_true, Bool.not_eq_true', Bool.not_eq_false', decide_eq_true_eq, decide_eq_false_iff_not]))
theorem two_le : 0 + 1 + 1 ≤ sizeLine := by rw [sizeLine_eq]; decide
theorem lt60 {a b : Nat} (h : a < 2 ^ 60) (g : b < 2 ^ 60) : a * b < 2 ^ 120 := by
  calc a * b < 2 ^ 60 * 2 ^ 60 := Nat.mul_lt_mul'' h g
    _ = 2 ^ 120 := by decide
def sp_root_down : SpD := fun ds q _ => ∃ T e : Nat, ds = [.int T, .int e] ∧ 1 ≤ T ∧ T < 2 ^ 11000 ∧ 1 ≤ e ∧ e ≤ 1000 ∧ ∀ r : Nat, r ^ e ≤ T → T < (r + 1) ^ e → q (.v (.int r))
def sp_root_up : SpD := fun ds q _ => ∃ T e : Nat, ds = [.int T, .int e] ∧ T < 2 ^ 11000 ∧ 1 ≤ e ∧ e ≤ 1000 ∧ ∀ r : Nat, RootUp T e r → q (.v (.int r))
def sp_common_divisor : SpD := fun ds q _ => ∃ a b : Nat, ds = [.int a, .int b] ∧ q (.v (.int (Nat.gcd a b : Nat)))
abbrev Fr (a b : Nat) : D := .tup [.int a, .int b]
def sp_frac : SpD := fun ds q _ => ∃ a b : Nat, ds = [.int a, .int b] ∧ 0 < b ∧ b.log2 < 9000 ∧ q (.v (Fr (a / Nat.gcd a b) (b / Nat.gcd a b)))
def sp_over : SpD := fun ds q _ => ∃ a b c d : Nat, ds = [Fr a b, Fr c d] ∧ 0 < b ∧ 0 < c ∧ a < 2 ^ 60 ∧ b < 2 ^ 60 ∧ c < 2 ^ 60 ∧ d < 2 ^ 60 ∧ q (.v (Fr ((a * d) / Nat.gcd (a * d) (b * c)) ((b * c) / Nat.gcd (a * d) (b * c))))
def sp_ceil_of : SpD := fun ds q _ => ∃ a b : Nat, ds = [Fr a b] ∧ 0 < b ∧ a < 2 ^ 12000 ∧ q (.v (.int ((a + b - 1) / b : Nat)))
def sp_raised : SpD := fun ds q _ => ∃ n e L : Nat, ds = [.int n, .int e] ∧ 1 ≤ n ∧ n < 2 ^ L ∧ L * e ≤ 100000 ∧ q (.v (.int (n ^ e : Nat)))
section
variable {P : Program} {w : World} {K : PySem.W.Frag} {mg : Str → Option Value} {base : Heap}
theorem sc_common_divisor : FnScope ["a", "b"] ["a", "b"] (defScope s_common_divisor) := ⟨rfl, rfl, rfl, by decide +kernel, rfl, by decide +kernel, by decide +kernel⟩
theorem ok_common_divisor {f : Addr} {fd : FuncData} (F : FunD K "common_divisor" "common_divisor" (defArgs s_common_divisor) (defBody s_common_divisor) (defScope s_common_divisor) [] [] f fd) :
    FnOk P w K mg base (L2N.CX P w) 1 f fd ["a", "b"] (lift K sp_common_divisor) := by
  refine fn_okD F sc_common_divisor (fun ds q x h => ?_) (fun cdv A outer s H E B hr => ⟨_, _, (dss_cons (ds_while PassesOwn.never (dt_ne hr.units (de_var 1) de_int) (dss_one (ds_par (i := 0) (j := 1) rfl sc_common_divisor.nd rfl rfl (by decide) rfl rfl (da_cons (de_var 1) (da_cons (de_mod (de_var 0) (de_var 1)) da_nil)) (by rfl))))
      (dss_one (ds_ret (de_mov 0)))), fun ds q x h => ?_⟩)
  · obtain ⟨a, b, rfl, h⟩ := h
    rfl
  · obtain ⟨a, b, rfl, h⟩ := h
    walk_at "d"
    refine while_by (α := Nat × Nat) (fun p => [some (.v (.int p.1)), some (.v (.int p.2))]) (fun p => Nat.gcd p.1 p.2 = Nat.gcd a b) (fun p => p.2) (a, b) rfl ?_
    rintro ⟨x, y⟩ hg
    walk_at "d"
    refine ⟨trivial, trivial, fun hc => ?_, fun hc => ?_⟩
    · have hy : y ≠ 0 := fun e => by subst e; simp at hc
      exact ⟨by omega, x % y, Nat.mod_lt _ (by omega), (y, x % y), by dsimp only; rw [Int.natCast_emod], gcd_step.trans hg, rfl⟩
    · have hy : y = 0 := by simpa using hc
      subst hy
      dsimp only at hg
      rw [Nat.gcd_zero_right] at hg
      rw [hg]
      exact h

theorem sc_frac : FnScope ["above", "below", "shared"] ["above", "below"] (defScope s_frac) := ⟨rfl, rfl, rfl, by decide +kernel, rfl, by decide +kernel, by decide +kernel⟩
theorem ok_frac {f : Addr} {fd : FuncData} (F : FunD K "frac" "frac" (defArgs s_frac) (defBody s_frac) (defScope s_frac) [.int 1] [] f fd) (c_common_divisor : Cal P w K mg base 1 "common_divisor" sp_common_divisor [] []) (m_abs : mg "abs" = none) :
    FnOk P w K mg base (L2N.CX P w) 2 f fd ["above", "below"] (lift K sp_frac) := by
  refine fn_okD F sc_frac (fun ds q x h => ?_) (fun cdv A outer s H E B hr => ⟨_, _, (dss_cons (ds_if (dt_eq hr.units (de_var 1) de_int) (dss_one ds_never) dss_nil)
      (dss_cons (ds_if (dt_lt (de_var 1) de_int) (dss_one (ds_par (i := 0) (j := 1) rfl sc_frac.nd rfl rfl (by decide) rfl rfl (da_cons (de_neg (de_var 0)) (da_cons (de_neg (de_var 1)) da_nil)) (by rfl))) dss_nil)
      (dss_cons (ds_if (dt_eq hr.units (de_var 1) de_int) (dss_one (ds_ret (de_tup (da_cons (de_var 0) (da_cons de_int da_nil))))) dss_nil)
      (dss_cons (ds_set (i := 2) sc_frac.nd rfl (by first | exact Or.inl rfl | exact Or.inr rfl) (de_call (c_common_divisor.mono (by decide)) hr (da_cons (de_abs (de_var 0) m_abs) (da_cons (de_var 1) da_nil))))
      (dss_one (ds_ret (de_tup (da_cons (de_fdiv (de_var 0) (de_var 2)) (da_cons (de_fdiv (de_var 1) (de_var 2)) da_nil))))))))), fun ds q x h => ?_⟩)
  · obtain ⟨a, b, rfl, h⟩ := h
    rfl
  · obtain ⟨a, b, rfl, hb, hl, h⟩ := h
    walk_at "r"
    refine ⟨fun e => by omega, fun _ => ⟨fun e => by omega, fun _ => ⟨fun e => ⟨two_le, ?_⟩, fun e => ?_⟩⟩⟩
    · have e1 : b = 1 := by omega
      subst e1
      rw [Nat.gcd_one_right, Nat.div_one, Nat.div_one] at h
      exact h
    · rw [if_neg (by omega)]
      refine ⟨a, b, rfl, ?_⟩
      have hg : 0 < Nat.gcd a b := Nat.gcd_pos_of_pos_right a hb
      have hgl : (Nat.gcd a b).log2 < 9000 := by
        have h1 : Nat.gcd a b ≤ b := Nat.gcd_le_right a hb
        have := (Nat.log2_lt (by omega)).mp hl
        exact (Nat.log2_lt (by omega)).mpr (Nat.lt_of_le_of_lt h1 this)
      walk_at "r"
      exact ⟨fdOk hg (.inl hgl), fdOk hg (.inl hgl), two_le, by rw [← Int.natCast_ediv, ← Int.natCast_ediv]; exact h⟩

theorem sc_over : FnScope ["f", "g"] ["f", "g"] (defScope s_over) := ⟨rfl, rfl, rfl, by decide +kernel, rfl, by decide +kernel, by decide +kernel⟩
theorem ok_over {f : Addr} {fd : FuncData} (F : FunD K "over" "over" (defArgs s_over) (defBody s_over) (defScope s_over) [] [] f fd) (c_frac : Cal P w K mg base 2 "frac" sp_frac [] []) :
    FnOk P w K mg base (L2N.CX P w) 3 f fd ["f", "g"] (lift K sp_over) := by
  refine fn_okD F sc_over (fun ds q x h => ?_) (fun cdv A outer s H E B hr => ⟨_, _, (dss_cons (ds_if (dt_eq hr.units (de_ix (de_var 1) de_int) de_int) (dss_one ds_never) dss_nil)
      (dss_one (ds_ret (de_call (c_frac.mono (by decide)) hr (da_cons (de_mul (de_ix (de_var 0) de_int) (de_ix (de_var 1) de_int)) (da_cons (de_mul (de_ix (de_var 0) de_int) (de_ix (de_var 1) de_int)) da_nil)))))), fun ds q x h => ?_⟩)
  · obtain ⟨a, b, c, d, rfl, h⟩ := h
    rfl
  · obtain ⟨a, b, c, d, rfl, hb, hc, h1, h2, h3, h4, h⟩ := h
    walk_at "r"
    refine ⟨fun e => by omega, fun _ => ⟨mulOk h1 h4 (by decide) (by decide) (by decide), mulOk h2 h3 (by decide) (by decide) (by decide), ?_⟩⟩
    refine ⟨a * d, b * c, by rw [Int.natCast_mul, Int.natCast_mul], Nat.mul_pos hb hc, ?_, h⟩
    have := log2_of (lt60 h2 h3) (by decide)
    omega

theorem sc_ceil_of : FnScope ["f"] ["f"] (defScope s_ceil_of) := ⟨rfl, rfl, rfl, by decide +kernel, rfl, by decide +kernel, by decide +kernel⟩
theorem ok_ceil_of {f : Addr} {fd : FuncData} (F : FunD K "ceil_of" "ceil_of" (defArgs s_ceil_of) (defBody s_ceil_of) (defScope s_ceil_of) [] [] f fd) :
    FnOk P w K mg base (L2N.CX P w) 1 f fd ["f"] (lift K sp_ceil_of) := by
  refine fn_okD F sc_ceil_of (fun ds q x h => ?_) (fun cdv A outer s H E B hr => ⟨_, _, (dss_one (ds_ret (de_neg (de_fdiv (de_neg (de_ix (de_var 0) de_int)) (de_ix (de_var 0) de_int))))), fun ds q x h => ?_⟩)
  · obtain ⟨a, b, rfl, h⟩ := h
    rfl
  · obtain ⟨a, b, rfl, hb, ha, h⟩ := h
    walk_at "r"
    refine ⟨⟨by omega, .inr ?_⟩, ?_⟩
    · rw [Int.natAbs_neg, Int.natAbs_natCast]
      have := log2_of ha (by decide)
      omega
    · rw [neg_ceil hb]
      exact h

theorem sc_raised : FnScope ["n", "e", "product"] ["n", "e"] (defScope s_raised) := ⟨rfl, rfl, rfl, by decide +kernel, rfl, by decide +kernel, by decide +kernel⟩
theorem ok_raised {f : Addr} {fd : FuncData} (F : FunD K "raised" "raised" (defArgs s_raised) (defBody s_raised) (defScope s_raised) [] [] f fd) :
    FnOk P w K mg base (L2N.CX P w) 1 f fd ["n", "e"] (lift K sp_raised) := by
  refine fn_okD F sc_raised (fun ds q x h => ?_) (fun cdv A outer s H E B hr => ⟨_, _, (dss_cons (ds_set (i := 2) sc_raised.nd rfl (by first | exact Or.inl rfl | exact Or.inr rfl) de_int)
      (dss_cons (ds_while PassesOwn.never (dt_gt (de_var 1) de_int) (dss_cons (ds_if (dt_eq hr.units (de_band (de_var 1) de_int) de_int) (dss_one (ds_set (i := 2) sc_raised.nd rfl (by first | exact Or.inl rfl | exact Or.inr rfl) (de_mul (de_var 2) (de_var 0)))) dss_nil)
      (dss_cons (ds_set (i := 1) sc_raised.nd rfl (by first | exact Or.inl rfl | exact Or.inr rfl) (de_shr (de_var 1) de_int))
      (dss_one (ds_if (dt_gt (de_var 1) de_int) (dss_one (ds_set (i := 0) sc_raised.nd rfl (by first | exact Or.inl rfl | exact Or.inr rfl) (de_mul (de_var 0) (de_var 0)))) dss_nil)))))
      (dss_one (ds_ret (de_mov 2))))), fun ds q x h => ?_⟩)
  · obtain ⟨n, e, L, rfl, h⟩ := h
    rfl
  · obtain ⟨n, e, L, rfl, hn, hL, hLe, h⟩ := h
    walk_at "d"
    refine while_by (α := Nat × Nat × Nat) (fun p => [some (.v (.int p.1)), some (.v (.int p.2.1)), some (.v (.int p.2.2))]) (fun p => 1 ≤ p.1 ∧ 1 ≤ p.2.2 ∧ p.2.2 * p.1 ^ p.2.1 = n ^ e) (fun p => p.2.1) (n, e, 1) ⟨hn, Nat.le_refl 1, Nat.one_mul _⟩ ?_
    rintro ⟨x, y, p⟩ ⟨hx, hp, hg⟩
    walk_at "r"
    dsimp only at hx hp hg
    have hP : n ^ e < 2 ^ 100001 := Nat.lt_of_lt_of_le (pow_lt2 hL) (Nat.pow_le_pow_right (by decide) (by omega))
    have hxy : 1 ≤ x ^ y := Nat.pow_pos hx
    have hpP : p ≤ n ^ e := by rw [← hg]; exact Nat.le_mul_of_pos_right p hxy
    rw [band1, half]
    have nxt : 0 < y → ∀ x' p' : Nat, (0 < y / 2 → x' = x * x) → (y / 2 = 0 → x' = x) → p' = p * x ^ (y % 2) → ∃ m', m' < y ∧ ∃ a' : Nat × Nat × Nat, [some (W.v (D.int (x' : Nat))), some (W.v (D.int (y / 2 : Nat))), some (W.v (D.int (p' : Nat)))] = [some (W.v (D.int a'.1)), some (W.v (D.int a'.2.1)), some (W.v (D.int a'.2.2))] ∧ (1 ≤ a'.1 ∧ 1 ≤ a'.2.2 ∧ a'.2.2 * a'.1 ^ a'.2.1 = n ^ e) ∧ m' = a'.2.1 := fun hy x' p' h1 h2 h3 => by
      refine ⟨y / 2, by omega, (x', y / 2, p'), rfl, ⟨?_, ?_, ?_⟩, rfl⟩
      · dsimp only
        by_cases hz : y / 2 = 0
        · rw [h2 hz]; exact hx
        · rw [h1 (by omega)]; exact Nat.mul_pos hx hx
      · dsimp only
        rw [h3]
        exact Nat.mul_pos hp (Nat.pow_pos hx)
      · dsimp only
        rw [← hg, pow_half x y, h3, Nat.mul_assoc]
        by_cases hz : y / 2 = 0
        · rw [hz, Nat.pow_zero, Nat.pow_zero, Nat.mul_one, Nat.one_mul]
        · rw [h1 (by omega), Nat.mul_comm (x ^ (y % 2))]
    have hxP : 0 < y → x ≤ n ^ e := fun hy => by
      rw [← hg]
      exact Nat.le_trans (le_pow hx hy) (Nat.le_mul_of_pos_left _ hp)
    have hm : 0 < y → MulOk (p : Int) (x : Int) := fun hy => mulOk (Nat.lt_of_le_of_lt hpP hP) (Nat.lt_of_le_of_lt (hxP hy) hP) (by decide) (by decide) (by decide)
    have hm2 : 0 < y → MulOk (x : Int) (x : Int) := fun hy => mulOk (Nat.lt_of_le_of_lt (hxP hy) hP) (Nat.lt_of_le_of_lt (hxP hy) hP) (by decide) (by decide) (by decide)
    refine ⟨fun hy => ⟨fun ho => ?_, fun ho => ?_⟩, fun hy => ?_⟩
    · have hy' : 0 < y := by omega
      have ho' : y % 2 = 1 := by omega
      refine ⟨hm hy', by decide, fun hz => ⟨hm2 hy', ?_⟩, fun hz => ?_⟩
      · rw [← Int.natCast_mul, ← Int.natCast_mul]
        exact nxt hy' _ _ (fun _ => rfl) (fun z => by omega) (by rw [ho', Nat.pow_one])
      · rw [← Int.natCast_mul]
        exact nxt hy' _ _ (fun z => by omega) (fun _ => rfl) (by rw [ho', Nat.pow_one])
    · have hy' : 0 < y := by omega
      have ho' : y % 2 = 0 := by omega
      refine ⟨by decide, fun hz => ⟨hm2 hy', ?_⟩, fun hz => ?_⟩
      · rw [← Int.natCast_mul]
        exact nxt hy' _ _ (fun _ => rfl) (fun z => by omega) (by rw [ho', Nat.pow_zero, Nat.mul_one])
      · exact nxt hy' _ _ (fun z => by omega) (fun _ => rfl) (by rw [ho', Nat.pow_zero, Nat.mul_one])
    · have hy' : y = 0 := by omega
      subst hy'
      rw [Nat.pow_zero, Nat.mul_one] at hg
      rw [hg]
      exact h

theorem sc_root_down : FnScope ["target", "e", "bits", "shift", "top", "low", "high", "middle", "found", "nearer"] ["target", "e"] (defScope s_root_down) := ⟨rfl, rfl, rfl, by decide +kernel, rfl, by decide +kernel, by decide +kernel⟩
theorem ok_root_down {f : Addr} {fd : FuncData} (F : FunD K "root_down" "root_down" (defArgs s_root_down) (defBody s_root_down) (defScope s_root_down) [] [] f fd) (c_raised : Cal P w K mg base 1 "raised" sp_raised [] []) (m_max : mg "max" = none) (g_LEADING_BITS : ∃ t, mg "LEADING_BITS" = some (.int 32 t)) :
    FnOk P w K mg base (L2N.CX P w) 2 f fd ["target", "e"] (lift K sp_root_down) := by
  refine fn_okD F sc_root_down (fun ds q x h => ?_) (fun cdv A outer s H E B hr => ⟨_, _, (dss_cons (ds_set (i := 2) sc_root_down.nd rfl (by first | exact Or.inl rfl | exact Or.inr rfl) (de_add (de_fdiv (de_m_bit_length (de_var 0)) (de_var 1)) de_int))
      (dss_cons (ds_set (i := 3) sc_root_down.nd rfl (by first | exact Or.inl rfl | exact Or.inr rfl) (de_max2 (da_cons de_int (da_cons (de_sub (de_var 2) (de_gint g_LEADING_BITS)) da_nil)) m_max))
      (dss_cons (ds_set (i := 4) sc_root_down.nd rfl (by first | exact Or.inl rfl | exact Or.inr rfl) (de_shr (de_var 0) (de_mul (de_var 1) (de_var 3))))
      (dss_cons (ds_set (i := 5) sc_root_down.nd rfl (by first | exact Or.inl rfl | exact Or.inr rfl) de_int)
      (dss_cons (ds_set (i := 6) sc_root_down.nd rfl (by first | exact Or.inl rfl | exact Or.inr rfl) (de_shl de_int (de_sub (de_var 2) (de_var 3))))
      (dss_cons (ds_while PassesOwn.never (dt_gt (de_sub (de_var 6) (de_var 5)) de_int) (dss_cons (ds_set (i := 7) sc_root_down.nd rfl (by first | exact Or.inl rfl | exact Or.inr rfl) (de_fdiv (de_add (de_var 5) (de_var 6)) de_int))
      (dss_one (ds_if (dt_le (de_call (c_raised.mono (by decide)) hr (da_cons (de_var 7) (da_cons (de_var 1) da_nil))) (de_var 4)) (dss_one (ds_set (i := 5) sc_root_down.nd rfl (by first | exact Or.inl rfl | exact Or.inr rfl) (de_var 7))) (dss_one (ds_set (i := 6) sc_root_down.nd rfl (by first | exact Or.inl rfl | exact Or.inr rfl) (de_var 7)))))))
      (dss_cons (ds_if (dt_eq hr.units (de_var 3) de_int) (dss_one (ds_ret (de_mov 5))) dss_nil)
      (dss_cons (ds_set (i := 8) sc_root_down.nd rfl (by first | exact Or.inl rfl | exact Or.inr rfl) (de_shl (de_var 6) (de_var 3)))
      (dss_one (ds_while PassesOwn.never (dt_tru de_bl) (dss_cons (ds_set (i := 9) sc_root_down.nd rfl (by first | exact Or.inl rfl | exact Or.inr rfl) (de_fdiv (de_add (de_mul (de_sub (de_var 1) de_int) (de_var 8)) (de_fdiv (de_var 0) (de_call (c_raised.mono (by decide)) hr (da_cons (de_var 8) (da_cons (de_sub (de_var 1) de_int) da_nil))))) (de_var 1)))
      (dss_cons (ds_if (dt_ge (de_var 9) (de_var 8)) (dss_one (ds_ret (de_mov 8))) dss_nil)
      (dss_one (ds_set (i := 8) sc_root_down.nd rfl (by first | exact Or.inl rfl | exact Or.inr rfl) (de_var 9))))))))))))))), fun ds q x h => ?_⟩)
  · obtain ⟨T, e, rfl, h⟩ := h
    rfl
  · obtain ⟨T, e, rfl, hT, hT2, he, he2, h⟩ := h
    walk_at "r"
    have hbl : Builtin.Int.intBits (T : Int) = T.log2 + 1 := by
      unfold Builtin.Int.intBits
      rw [if_neg (by simp; omega)]
      rfl
    rw [hbl]
    have hTb : T < 2 ^ (T.log2 + 1) := Nat.lt_log2_self
    have hb : T.log2 + 1 ≤ 11000 := log2_of hT2 (by decide)
    generalize T.log2 + 1 = b at hTb hb
    clear hbl
    simp only [← Int.natCast_ediv]
    have hce : b < (b / e + 1) * e := by
      have := Nat.lt_div_mul_add (a := b) (b := e) (by omega)
      rw [Nat.add_mul, Nat.one_mul]
      exact this
    have hce2 : b / e * e ≤ b := Nat.div_mul_le_self b e
    have hcb : b / e ≤ b := Nat.div_le_self b e
    generalize hc : b / e = c at hce hce2 hcb
    have e1 : (if (c : Int) + 1 - 32 > 0 then (c : Int) + 1 - 32 else 0) = ((c - 31 : Nat) : Int) := by split <;> omega
    rw [e1]
    generalize hs : c - 31 = sh
    have e2 : ((e : Int) * (sh : Int)).toNat = e * sh := by rw [← Int.natCast_mul, Int.toNat_natCast]
    have e3 : ((c : Int) + 1 - (sh : Int)) = ((c + 1 - sh : Nat) : Int) := by omega
    rw [e2, e3, Int.toNat_natCast]
    have e4 : (T : Int) / 2 ^ (e * sh) = ((T / 2 ^ (e * sh) : Nat) : Int) := by rw [Int.natCast_ediv, Int.natCast_pow]; rfl
    have e5 : (1 : Int) * 2 ^ (c + 1 - sh) = ((2 ^ (c + 1 - sh) : Nat) : Int) := by rw [Int.one_mul, Int.natCast_pow]; rfl
    rw [e4, e5]
    generalize hw : c + 1 - sh = w
    have hw2 : w ≤ 32 := by omega
    have hws : w + sh = c + 1 := by omega
    generalize htop : T / 2 ^ (e * sh) = top
    have hse : sh * e ≤ 11000 := by
      have : sh * e ≤ c * e := Nat.mul_le_mul_right e (by omega)
      omega
    refine ⟨fdOk (by omega) (.inl (by have := log2_of (n := e) (k := 10) (by omega) (by decide); omega)), mulOk (k := 10) (l := 14) (by omega) (by omega) (by decide) (by decide) (by decide), by omega, ⟨by omega, by rw [show (Builtin.Int.intBits 1 : Int) = 1 from rfl]; omega⟩, ?_⟩
    refine while_by (α := Nat × Nat × Option W) (fun p => [some (W.v (D.int T)), some (W.v (D.int e)), some (W.v (D.int ((c : Int) + 1))), some (W.v (D.int sh)), some (W.v (D.int top)), some (W.v (D.int p.1)), some (W.v (D.int p.2.1)), p.2.2, none, none])
      (fun p => p.1 ^ e ≤ top ∧ top < p.2.1 ^ e ∧ p.1 < p.2.1 ∧ p.2.1 ≤ 2 ^ w) (fun p => p.2.1 - p.1) (0, 2 ^ w, none) ⟨?_, ?_, Nat.two_pow_pos w, Nat.le_refl _⟩ ?_
    · dsimp only
      rw [Nat.zero_pow (by omega)]
      exact Nat.zero_le _
    · dsimp only
      rw [← htop, ← Nat.pow_mul]
      rw [Nat.div_lt_iff_lt_mul (Nat.two_pow_pos _), ← Nat.pow_add, show w * e + e * sh = (c + 1) * e by rw [← hws, Nat.add_mul, Nat.mul_comm e sh]]
      exact Nat.lt_of_lt_of_le hTb (Nat.pow_le_pow_right (by decide) (by omega))
    rintro ⟨lo, hi, m7⟩ ⟨i1, i2, i3, i4⟩
    dsimp only at i1 i2 i3 i4
    walk_at "r"
    have p32 : 2 ^ w ≤ 2 ^ 32 := Nat.pow_le_pow_right (by decide) hw2
    refine ⟨fun hc1 => ?_, fun hc1 => ?_⟩
    · have e6 : ((lo : Int) + (hi : Int)) / 2 = (((lo + hi) / 2 : Nat) : Int) := by omega
      rw [e6]
      generalize hmid : (lo + hi) / 2 = mid
      refine ⟨⟨by decide, .inl (by decide)⟩, mid, e, 33, rfl, by omega, by omega, by omega, ?_⟩
      walk_at "r"
      refine ⟨fun ht => ⟨hi - mid, by omega, (mid, hi, some (W.v (D.int mid))), rfl, ⟨by dsimp only; omega, i2, by dsimp only; omega, i4⟩, rfl⟩, fun ht => ⟨mid - lo, by omega, (lo, mid, some (W.v (D.int mid))), rfl, ⟨i1, by dsimp only; omega, by dsimp only; omega, by dsimp only; omega⟩, rfl⟩⟩
    · have hhi : hi = lo + 1 := by omega
      refine ⟨fun hz => ?_, fun hz => ?_⟩
      · have hz' : sh = 0 := by omega
        subst hz'
        rw [Nat.mul_zero, Nat.pow_zero, Nat.div_one] at htop
        subst htop
        exact h lo i1 (hhi ▸ i2)
      · have e7 : (hi : Int) * 2 ^ sh = ((hi * 2 ^ sh : Nat) : Int) := by rw [Int.natCast_mul, Int.natCast_pow]; rfl
        rw [Int.toNat_natCast, e7]
        have hf0 : T < (hi * 2 ^ sh) ^ e := by
          rw [Nat.mul_pow, ← Nat.pow_mul, Nat.mul_comm sh e, ← Nat.div_lt_iff_lt_mul (Nat.two_pow_pos _), htop]
          exact i2
        have hf1 : hi * 2 ^ sh ≤ 2 ^ (c + 1) := by
          rw [← hws, Nat.pow_add]
          exact Nat.mul_le_mul_right _ i4
        have hf2 : 1 ≤ hi * 2 ^ sh := Nat.mul_pos (by omega) (Nat.two_pow_pos _)
        refine ⟨shl_ok (i := (hi : Int)) (n := 33) (by rw [Int.natAbs_natCast]; omega) (by omega), ?_⟩
        refine while_by (α := Nat × Option W) (fun p => [some (W.v (D.int T)), some (W.v (D.int e)), some (W.v (D.int ((c : Int) + 1))), some (W.v (D.int sh)), some (W.v (D.int top)), some (W.v (D.int lo)), some (W.v (D.int hi)), m7, some (W.v (D.int p.1)), p.2])
          (fun p => 1 ≤ p.1 ∧ p.1 ≤ 2 ^ (c + 1) ∧ T < (p.1 + 1) ^ e) (fun p => p.1) (hi * 2 ^ sh, none) ⟨hf2, hf1, Nat.lt_of_lt_of_le hf0 (Nat.pow_le_pow_left (Nat.le_succ _) e)⟩ ?_
        rintro ⟨f, m9⟩ ⟨j1, j2, j3⟩
        dsimp only at j1 j2 j3
        walk_at "r"
        refine ⟨true, rfl, fun _ => ?_, fun z => nomatch z⟩
        have e8 : (e : Int) - 1 = ((e - 1 : Nat) : Int) := by omega
        rw [e8]
        have hfl : f < 2 ^ (c + 2) := Nat.lt_of_le_of_lt j2 (Nat.pow_lt_pow_right (by decide) (by omega))
        refine ⟨mulOk (k := 10) (l := c + 2) (by omega) hfl (by decide) (by omega) (by omega), f, e - 1, c + 2, rfl, j1, hfl, ?_, ?_⟩
        · have : (c + 2) * (e - 1) ≤ (c + 2) * e := Nat.mul_le_mul_left _ (by omega)
          have h2 : (c + 2) * e = c * e + 2 * e := Nat.add_mul c 2 e
          omega
        walk_at "r"
        rw [← Int.natCast_mul, ← Int.natCast_ediv, ← Int.natCast_add, ← Int.natCast_ediv]
        have hTl : T.log2 < 13000 := Nat.lt_of_lt_of_le (log2_of hT2 (by decide)) (by decide)
        refine ⟨fdOk (Nat.pow_pos j1) (.inr hTl), fdOk (by omega) (.inl (by have := log2_of (n := e) (k := 10) (by omega) (by decide); omega)), fun hge => ?_, fun hlt => ?_⟩
        · exact h f (newton_stop j1 he (by omega)) j3
        · have hup := newton_up (T := T) j1 he
          have hlt' : ((e - 1) * f + T / f ^ (e - 1)) / e < f := by omega
          generalize ((e - 1) * f + T / f ^ (e - 1)) / e = g at hup hlt'
          refine ⟨g, hlt', (g, some (W.v (D.int g))), rfl, ⟨?_, by dsimp only; omega, hup⟩, rfl⟩
          dsimp only
          refine Nat.one_le_iff_ne_zero.mpr fun z => ?_
          rw [z, Nat.zero_add, Nat.one_pow] at hup
          omega

theorem sc_root_up : FnScope ["target", "e"] ["target", "e"] (defScope s_root_up) := ⟨rfl, rfl, rfl, by decide +kernel, rfl, by decide +kernel, by decide +kernel⟩
theorem ok_root_up {f : Addr} {fd : FuncData} (F : FunD K "root_up" "root_up" (defArgs s_root_up) (defBody s_root_up) (defScope s_root_up) [] [] f fd) (c_root_down : Cal P w K mg base 2 "root_down" sp_root_down [] []) :
    FnOk P w K mg base (L2N.CX P w) 3 f fd ["target", "e"] (lift K sp_root_up) := by
  refine fn_okD F sc_root_up (fun ds q x h => ?_) (fun cdv A outer s H E B hr => ⟨_, _, (dss_cons (ds_if (dt_le (de_var 0) de_int) (dss_one (ds_ret de_int)) dss_nil)
      (dss_cons (ds_if (dt_le (de_m_bit_length (de_var 0)) (de_var 1)) (dss_one (ds_ret de_int)) dss_nil)
      (dss_one (ds_ret (de_add (de_call (c_root_down.mono (by decide)) hr (da_cons (de_sub (de_var 0) de_int) (da_cons (de_var 1) da_nil))) de_int))))), fun ds q x h => ?_⟩)
  · obtain ⟨T, e, rfl, h⟩ := h
    rfl
  · obtain ⟨T, e, rfl, hT2, he, he2, h⟩ := h
    walk_at "r"
    refine ⟨fun h1 => h 1 ⟨Nat.le_refl 1, by rw [Nat.one_pow]; omega, .inl rfl⟩, fun h1 => ?_⟩
    have hbl : Builtin.Int.intBits (T : Int) = T.log2 + 1 := by
      unfold Builtin.Int.intBits
      rw [if_neg (by simp; omega)]
      rfl
    rw [hbl]
    refine ⟨fun h2 => h 2 ⟨by decide, ?_, .inr (by rw [show 2 - 1 = 1 from rfl, Nat.one_pow]; omega)⟩, fun h2 => ?_⟩
    · have h3 : T < 2 ^ (T.log2 + 1) := Nat.lt_log2_self
      exact Nat.le_of_lt (Nat.lt_of_lt_of_le h3 (Nat.pow_le_pow_right (by decide) (by omega)))
    · refine ⟨T - 1, e, by rw [show (T : Int) - 1 = ((T - 1 : Nat) : Int) by omega], by omega, Nat.lt_of_le_of_lt (Nat.sub_le _ _) hT2, he, he2, fun r h3 h4 => ?_⟩
      walk_at "r"
      rw [show (r : Int) + 1 = ((r + 1 : Nat) : Int) by omega]
      exact h (r + 1) ⟨by omega, by omega, .inr (by rw [Nat.add_sub_cancel]; omega)⟩

end
end Cl

set_option maxHeartbeats 2000000
set_option exponentiation.threshold 200000
namespace Cl
open PySem PySem.Spec L2 DL M
local macro_rules | `(tactic| walk_at "d") => `(tactic| dsimp only [rSeq, rSet, rUn, rVar, rMov, rC, rBin, rBinP', rBinP, rCall, rCons, rNil, rTup, rLst, rIf, rRet, rRetN, rVal, rTru, rNot, rAnd, rOr, rAndV, rOrV, gNot, rIfE, rNext, rBreak, rCont, rDrop, rPar, rFor, gt, st, frz, gAdd, DL.gSub, gMul, gFdiv, gMod, gPow, gShr, gShl, gAnd, gNeg, gLt, gLe, gGt, gGe, gEq, gNe, okW, eqW, gAbs, gInt, gLen, wipeE, sgName, sgTup, sgCons, sgNil, rAsg, startE, List.length, rPk, gIsB, gNotB, isN, rIsN, rNotN, rMax2, rMin2, rNever, gBits, List.append_nil, rSto, rStoSet, rStoIf, rApp, rPop0, isOwn, rSl, rSlP, rNoPart, rPart, gCut, itL, gFld, rRaise, rMk0, rMakeK, rCnt, gCnt, gIx, gIsi, tyW, rIsX])
local macro_rules | `(tactic| walk_at "r") => `(tactic| (try walk_at "d"; try simp only [at0, at1, at2, at3, Option.some.injEq, exists_eq_left', true_and, and_true, Bool.not_eq_true', Bool.not_eq_false', decide_eq_true_eq, decide_eq_false_iff_not, List.append_nil, List.cons_append, List.nil_append]; try walk_at "d"; try simp only [at0, at1, at2, at3, Option.some.injEq, exists_eq_left', true_and, and_true, Bool.not_eq_true', Bool.not_eq_false', decide_eq_true_eq, decide_eq_false_iff_not]))
theorem _root_.L2H.RoomH.units {k : Nat} {A : Around} (r : L2H.RoomH k A) : A.units + 64 < cLine := by
  have := r.un
  omega
abbrev kq (q : W → Prop) : KD := ⟨fun _ => q (.v .non), fun w _ => q w, fun _ => False, fun _ => False⟩
def ra (a b : Nat) : Nat := a / Nat.gcd a b
def rb (a b : Nat) : Nat := b / Nat.gcd a b
def namesB : List Str := ["yes", "papers", "k", "sigma", "choice", "c"]
structure FwOk (k0 k1 c e1 s0 s1 : Nat) : Prop where
  a1 : 0 < k0
  a2 : 0 < k1
  a3 : 0 < c
  a4 : 0 < e1
  b1 : k0 < 2 ^ 60
  b2 : k1 < 2 ^ 60
  b3 : c < 2 ^ 60
  b4 : e1 < 2 ^ 60
  d1 : 1 ≤ s0
  d2 : s0 ≤ 1000
  d3 : 1 ≤ s1
  A : ∃ A, ra (k0 * e1) (k1 * c) < 2 ^ A ∧ rb (k0 * e1) (k1 * c) < 2 ^ A ∧ A * s1 ≤ 10500
abbrev FwLeast (k0 k1 c e1 s0 s1 n : Nat) : Prop := Least (ra (k0 * e1) (k1 * c)) (rb (k0 * e1) (k1 * c)) s0 s1 n
def sp_from_where (cB cBN cNS : Addr) : SpD := fun ds q x => ∃ (fs : List (Str × D)) (e0 : Int) (e1 : Nat) (yes : Bool), ds = [.ins cB fs, .tup [.int e0, .int e1]] ∧ fs.lookup ("yes" : Str) = some (.bl yes) ∧
  ((e0 ≤ 0 ∧ x ⟨.ref cBN, none⟩) ∨ (0 < e0 ∧ yes = false ∧ x ⟨.ref cNS, none⟩) ∨ (yes = true ∧ ∃ k0 k1 c s0 s1 : Nat, e0 = c ∧ fs.lookup ("k" : Str) = some (Fr k0 k1) ∧ fs.lookup ("sigma" : Str) = some (Fr s0 s1) ∧ FwOk k0 k1 c e1 s0 s1 ∧ ∀ n : Nat, FwLeast k0 k1 c e1 s0 s1 n → q (.v (.int n))))
def sp__law_store : SpD := fun ds q _ => ∃ d, ds = [d] ∧ okScript d ∧ ∀ cells, okCells cells → q (.o [.lst cells, .int 0, .int 0, .int 0, .int 17574])
def sp__law_take : SpD := fun ds q _ => ∃ n : Nat, ds = [.sto, .int n] ∧ n < 2 ^ 60 ∧ ∀ r : Nat, r < max 1 n → q (.v (.int r))
def sp__law_chance : SpD := fun ds q _ => ∃ (a : Int) (n : Nat), ds = [.sto, .int a, .int n] ∧ n < 2 ^ 60 ∧ ∀ b, q (.v (.bl b))
def sp__law_pick : SpD := fun ds q _ => ∃ xs : List D, ds = [.sto, .lst xs] ∧ xs ≠ [] ∧ xs.length < 1000 ∧ ∀ d ∈ xs, q (.v d)
def sp__law_gcd : SpD := fun ds q _ => ∃ a b : Nat, ds = [.int a, .int b] ∧ q (.v (.int (Nat.gcd a b : Nat)))
def sp__law_frac : SpD := fun ds q _ => ∃ a b : Nat, ds = [.int a, .int b] ∧ 0 < a ∧ 0 < b ∧ b.log2 < 9000 ∧ q (.v (Fr (ra a b) (rb a b)))
def sp__law_mul : SpD := fun ds q _ => ∃ a b c d : Nat, ds = [Fr a b, Fr c d] ∧ 0 < a ∧ 0 < b ∧ 0 < c ∧ 0 < d ∧ a < 2 ^ 60 ∧ b < 2 ^ 60 ∧ c < 2 ^ 60 ∧ d < 2 ^ 60 ∧ q (.v (Fr (ra (a * c) (b * d)) (rb (a * c) (b * d))))
def sp__law_div : SpD := fun ds q _ => ∃ a b c d : Nat, ds = [Fr a b, Fr c d] ∧ 0 < a ∧ 0 < b ∧ 0 < c ∧ 0 < d ∧ a < 2 ^ 60 ∧ b < 2 ^ 60 ∧ c < 2 ^ 60 ∧ d < 2 ^ 60 ∧ q (.v (Fr (ra (a * d) (b * c)) (rb (a * d) (b * c))))
def sp__law_pow : SpD := fun ds q _ => ∃ n e L : Nat, ds = [.int n, .int e] ∧ 1 ≤ n ∧ n < 2 ^ L ∧ L * e ≤ 100000 ∧ q (.v (.int (n ^ e : Nat)))
def sp__law_fraction : SpD := fun ds q _ => ∃ g : Nat, ds = [.sto, .int g] ∧ 1 ≤ g ∧ g < 2 ^ 60 ∧ ∀ a b : Nat, 1 ≤ a → a ≤ g → 1 ≤ b → b ≤ g → q (.v (Fr (ra a b) (rb a b)))
/-- 0 < all; the world's bounds -/
structure WorldOk (k0 k1 s0 s1 e0 e1 lv : Nat) : Prop where
  f1 : 0 < k0 ∧ k0 ≤ 999999999999
  f2 : 0 < k1 ∧ k1 ≤ 999999999999
  f3 : 0 < e0 ∧ e0 ≤ 999999999999
  f4 : 0 < e1 ∧ e1 ≤ 999999999999
  f5 : 0 < s0 ∧ s0 ≤ 999
  f6 : 0 < s1
  A : ∃ A, k0 * e1 < 2 ^ A ∧ k1 * (e0 + 1) < 2 ^ A ∧ A * s1 ≤ 10000
  lv : 0 < lv → s1 ≤ 4 ∧ k0 ≤ 160000 ∧ k1 ≤ 160000 ∧ e0 = 1 ∧ e1 ≤ 200 ∧ ∃ n, 1 ≤ n ∧ lv = n ^ s1 ∧ k0 * e1 = n ^ s0 * (k1 * e0)
abbrev WorldD (k0 k1 s0 s1 e0 e1 lv : Nat) : List D := [Fr k0 k1, Fr s0 s1, Fr e0 e1, .int lv]
def sp__law_world : SpD := fun ds q _ => ds = [.sto] ∧ ∀ k0 k1 s0 s1 e0 e1 lv : Nat, WorldOk k0 k1 s0 s1 e0 e1 lv → q (.o (WorldD k0 k1 s0 s1 e0 e1 lv))
def sp__law_least : SpD := fun ds q _ => ∃ k0 k1 s0 s1 e0 e1 n : Nat, ∃ z y : D, ds = [.lst [Fr k0 k1, Fr s0 s1, z, y], Fr e0 e1, .int n] ∧ FwOk k0 k1 e0 e1 s0 s1 ∧ FwLeast k0 k1 e0 e1 s0 s1 n ∧ q (.v (.bl true))
mutual
def likeD : D → Bool
  | .non => true
  | .bl _ => true
  | .int _ => true
  | .tup xs => likeDs xs
  | .lst xs => likeDs xs
  | _ => false
def likeDs : List D → Bool
  | [] => true
  | d :: ds => likeD d && likeDs ds
end
mutual
def sizeD : D → Nat
  | .tup xs => 1 + sizeDs xs
  | .lst xs => 1 + sizeDs xs
  | _ => 1
def sizeDs : List D → Nat
  | [] => 0
  | d :: ds => sizeD d + sizeDs ds
end
def sp__law_like : SpD := fun ds q _ => ∃ ys : List D, ds = [.lst ys, .lst ys] ∧ likeDs ys = true ∧ sizeDs ys ≤ 1000 ∧ q (.v (.bl true))
def fieldsB (s0 s1 : Nat) (k : D) (p : D) : List (Str × D) := namesB.zip [.bl true, p, k, Fr s0 s1, .non, .non]
def sp__law_made (cB : Addr) : SpD := fun ds q _ => ∃ (s0 s1 : Nat) (k y z : D), ds = [.sto, .lst [k, Fr s0 s1, y, z]] ∧ ∀ p, q (.v (.ins cB (namesB.zip [.bl true, p, k, Fr s0 s1, .non, .non])))
/-- which place of the list stands for which class -/
def sp__law_only (cBN cNS : Addr) : Addr → Value → SpD := fun a C ds q _ => ∃ n : Int, ds = [.exc a C, .int n] ∧ ((C = .ref cBN ∧ n = 11) ∨ (C = .ref cNS ∧ n = 19)) ∧ q (.v (.bl true))
def gD3 (ds es : List D) : List D := [ds.getD 0 .non, es.getD 0 .non, es.getD 1 .non, es.getD 2 .non, .non, .non]
def gD2 (ds es : List D) : List D := [ds.getD 0 .non, .non, es.getD 0 .non, es.getD 1 .non, .non, .non]
def names21 : List Str := ["BadText", "BadName", "BadCost", "BadLaw", "BadPoint", "EmptyRoom", "BadWork", "NoPower", "BadFact", "Clash", "Ring", "BadNumber", "BadRow", "TooMany", "TooFar", "TooWide", "NeedsPoint", "NotGrowing", "NoSeat", "NoSuch", "Held"]
def okOnly (K : PySem.W.Frag) (cBN cNS : Addr) : Value → Option Addr → Prop := fun C od => ∃ D : Addr, C = .ref D ∧ od = none ∧ ExcC K D ∧ (D = cBN ∨ D = cNS)
theorem rIf_def {c : RT} {a b : RS} {k : KD} {ρ : EN} : rIf c a b k ρ = c ρ fun v ρ' => (v = true → a k ρ') ∧ (v = false → b k ρ') := rfl
theorem rOr_def {c d : RT} {ρ : EN} {k : Bool → EN → Prop} : rOr c d ρ k = c ρ fun b ρ' => (b = true → k true ρ') ∧ (b = false → d ρ' k) := rfl
theorem isi_same {T : Ty} {i j : Nat} {ρ : EN} {k : Bool → EN → Prop} {d : D} {t : Ty} (hi : gt ρ i = some (.v d)) (hj : gt ρ j = some (.v d)) (ht : tyW (.v d) = some t) (h : k false ρ) : rVal (rBin gNe (rUn (gIsi T) (rVar i)) (rUn (gIsi T) (rVar j))) ρ k := by
  unfold rVal rBin rUn rVar
  rw [hi]
  refine ⟨t, ht, ?_⟩
  show (match gt ρ j with | some (.v d) => _ | some (.o ds) => _ | some (.od ds) => _ | none => _)
  rw [hj]
  refine ⟨t, ht, ?_⟩
  refine ⟨trivial, trivial, ?_⟩
  have e : (!eqW (W.v (D.bl (isT t T))) (W.v (D.bl (isT t T)))) = false := by
    show (!decide (isT t T = isT t T)) = false
    simp
  show (match W.v (D.bl (!eqW (W.v (D.bl (isT t T))) (W.v (D.bl (isT t T))))) with | .v (.bl b) => k b ρ | _ => False)
  rw [e]
  exact h
theorem isn_same {i j : Nat} {ρ : EN} {k : Bool → EN → Prop} {d : D} (hi : gt ρ i = some (.v d)) (hj : gt ρ j = some (.v d)) (h : k false ρ) : rVal (rBin gNe (rIsN (rVar i)) (rIsN (rVar j))) ρ k := by
  unfold rVal rBin rIsN rVar
  rw [hi]
  show (match gt ρ j with | some (.v d) => _ | some (.o ds) => _ | some (.od ds) => _ | none => _)
  rw [hj]
  refine ⟨trivial, trivial, ?_⟩
  have e : (!eqW (W.v (D.bl (isN (.v d)))) (W.v (D.bl (isN (.v d))))) = false := by
    show (!decide (isN (.v d) = isN (.v d))) = false
    simp
  show (match W.v (D.bl (!eqW (W.v (D.bl (isN (.v d)))) (W.v (D.bl (isN (.v d)))))) with | .v (.bl b) => k b ρ | _ => False)
  rw [e]
  exact h
theorem var_same {i j : Nat} {ρ : EN} {k : Bool → EN → Prop} {d : D} (hi : gt ρ i = some (.v d)) (hj : gt ρ j = some (.v d)) (ok : okW (.v d)) (e0 : eqW (.v d) (.v d) = true) (h : k false ρ) : rVal (rBin gNe (rVar i) (rVar j)) ρ k := by
  unfold rVal rBin rVar
  rw [hi]
  show (match gt ρ j with | some (.v d) => _ | some (.o ds) => _ | some (.od ds) => _ | none => _)
  rw [hj]
  refine ⟨ok, ok, ?_⟩
  show (match W.v (D.bl (!eqW (W.v d) (W.v d))) with | .v (.bl b) => k b ρ | _ => False)
  rw [e0]
  exact h
theorem len_same {i j : Nat} {ρ : EN} {k : Bool → EN → Prop} {d : D} {n : Int} (hi : gt ρ i = some (.v d)) (hj : gt ρ j = some (.v d)) (hn : ∀ k : W → Prop, k (.v (.int n)) → gLen (.v d) k) (h : k false ρ) : rVal (rBin gNe (rUn gLen (rVar i)) (rUn gLen (rVar j))) ρ k := by
  unfold rVal rBin rUn rVar
  rw [hi]
  refine hn _ ?_
  show (match gt ρ j with | some (.v d) => _ | some (.o ds) => _ | some (.od ds) => _ | none => _)
  rw [hj]
  refine hn _ ?_
  refine ⟨trivial, trivial, ?_⟩
  have e : (!eqW (W.v (D.int n)) (W.v (D.int n))) = false := by
    show (!decide (n = n)) = false
    simp
  show (match W.v (D.bl (!eqW (W.v (D.int n)) (W.v (D.int n)))) with | .v (.bl b) => k b ρ | _ => False)
  rw [e]
  exact h
theorem rSeq_def {a b : RS} {k : KD} {ρ : EN} : rSeq a b k ρ = a { k with nx := b k } ρ := rfl
theorem like_loop {xs : List D} {d y0 y1 p : D} (hd : d = .tup xs ∨ d = .lst xs) (K : KD) (line : 2000 < sizeLine) : ∀ (n i : Nat) (l : List D) (x6 : Option W), i + n = xs.length → l.length + n ≤ 2000 →
    (∀ x6, K.nx [some (.v y0), some (.v y1), some (.o ((l ++ xs.drop i).map fun d => D.tup [d, d])), some (.v p), some (.v d), some (.v d), x6]) →
    forD (sgName 6) (rDrop (rApp 2 (rTup (rCons (rBin gIx (rVar 4) (rVar 6)) (rCons (rBin gIx (rVar 5) (rVar 6)) rNil))))) K ((List.range' i n).map fun j => D.int (0 + (j : Nat)))
      [some (.v y0), some (.v y1), some (.o (l.map fun d => D.tup [d, d])), some (.v p), some (.v d), some (.v d), x6]
  | 0, i, l, x6, hi, hl, h => by
    have e : xs.drop i = [] := List.drop_eq_nil_of_le (by omega)
    rw [e, List.append_nil] at h
    exact h x6
  | n + 1, i, l, x6, hi, hl, h => by
    have hi' : i < xs.length := by omega
    have hat : L2.atI xs (0 + (i : Int)) = some xs[i] := by
      unfold L2.atI ixN
      rw [if_pos (by omega), if_pos (by omega)]
      simp
    have e2 : l ++ xs.drop i = (l ++ [xs[i]]) ++ xs.drop (i + 1) := by
      rw [List.drop_eq_getElem_cons hi', List.append_assoc]
      rfl
    rw [e2] at h
    have ih := like_loop hd K line n (i + 1) (l ++ [xs[i]]) (some (.v (.int (0 + (i : Nat))))) (by omega) (by simp; omega) h
    rw [List.range'_succ, List.map_cons]
    have e3 : (l ++ [xs[i]]).map (fun d => D.tup [d, d]) = l.map (fun d => D.tup [d, d]) ++ [D.tup [xs[i], xs[i]]] := by simp
    rw [e3] at ih
    have hl2 : (l.map fun d => D.tup [d, d]).length < sizeLine := by simp; omega
    rcases hd with rfl | rfl
    · exact ⟨trivial, xs[i], hat, xs[i], hat, two_le, hl2, ih⟩
    · exact ⟨trivial, xs[i], hat, xs[i], hat, two_le, hl2, ih⟩
theorem len_size : ∀ xs : List D, xs.length ≤ sizeDs xs
  | [] => Nat.zero_le _
  | x :: xs => by
    have h1 : 1 ≤ sizeD x := by cases x <;> simp [sizeD]
    have h2 := len_size xs
    rw [sizeDs, List.length_cons]
    omega
theorem likeDs_app : ∀ xs ys : List D, likeDs (xs ++ ys) = (likeDs xs && likeDs ys)
  | [], ys => by simp [likeDs]
  | x :: xs, ys => by rw [List.cons_append, likeDs, likeDs, likeDs_app xs ys, Bool.and_assoc]
theorem sizeDs_app : ∀ xs ys : List D, sizeDs (xs ++ ys) = sizeDs xs + sizeDs ys
  | [], ys => by simp [sizeDs]
  | x :: xs, ys => by rw [List.cons_append, sizeDs, sizeDs, sizeDs_app xs ys, Nat.add_assoc]
theorem ra_pos {a b : Nat} (ha : 0 < a) : 0 < ra a b := Nat.div_pos (Nat.gcd_le_left b ha) (Nat.gcd_pos_of_pos_left b ha)
theorem ra_mul (a b : Nat) : ra a b * b = a * rb a b := by
  unfold ra rb
  obtain ⟨x, hx⟩ := Nat.gcd_dvd_left a b
  obtain ⟨y, hy⟩ := Nat.gcd_dvd_right a b
  by_cases hg : Nat.gcd a b = 0
  · rw [hg, Nat.div_zero, Nat.div_zero, Nat.zero_mul, Nat.mul_zero]
  · have h1 : a / Nat.gcd a b = x := Nat.div_eq_of_eq_mul_right (by omega) hx
    have h2 : b / Nat.gcd a b = y := Nat.div_eq_of_eq_mul_right (by omega) hy
    rw [h1, h2]
    generalize Nat.gcd a b = g at *
    rw [hx, hy, Nat.mul_comm g x, Nat.mul_assoc]
theorem rb_pos {a b : Nat} (hb : 0 < b) : 0 < rb a b := Nat.div_pos (Nat.gcd_le_right a hb) (Nat.gcd_pos_of_pos_right a hb)
end Cl

set_option maxHeartbeats 2000000
set_option exponentiation.threshold 200000
namespace Cl
open PySem PySem.Spec L2 DL M
local macro_rules | `(tactic| walk_at "d") => `(tactic| dsimp only [rSeq, rSet, rUn, rVar, rMov, rC, rBin, rBinP', rBinP, rCall, rCons, rNil, rTup, rLst, rIf, rRet, rRetN, rVal, rTru, rNot, rAnd, rOr, rAndV, rOrV, gNot, rIfE, rNext, rBreak, rCont, rDrop, rPar, rFor, gt, st, frz, gAdd, DL.gSub, gMul, gFdiv, gMod, gPow, gShr, gShl, gAnd, gNeg, gLt, gLe, gGt, gGe, gEq, gNe, okW, eqW, gAbs, gInt, gLen, wipeE, sgName, sgTup, sgCons, sgNil, rAsg, startE, List.length, rPk, gIsB, gNotB, isN, rIsN, rNotN, rMax2, rMin2, rNever, gBits, List.append_nil, rSto, rStoSet, rStoIf, rApp, rPop0, isOwn, rSl, rSlP, rNoPart, rPart, gCut, itL, gFld, rRaise, rMk0, rMakeK, rCnt, gCnt, gIx, gIsi, tyW, rIsX])
local macro_rules | `(tactic| walk_at "r") => `(tactic| (try walk_at "d"; try simp only [at0, at1, at2, at3, Option.some.injEq, exists_eq_left', true_and, and_true, Bool.not_eq_true', Bool.not_eq_false', decide_eq_true_eq, decide_eq_false_iff_not, List.append_nil, List.cons_append, List.nil_append]; try walk_at "d"; try simp only [at0, at1, at2, at3, Option.some.injEq, exists_eq_left', true_and, and_true, Bool.not_eq_true', Bool.not_eq_false', decide_eq_true_eq, decide_eq_false_iff_not]))

section
variable {P : Program} {w : World} {K : PySem.W.Frag} {mg : Str → Option Value} {base : Heap}
theorem sc_from_where : FnScope ["answer", "e", "above", "below", "high", "low"] ["answer", "e"] (defScope s_from_where) := ⟨rfl, rfl, rfl, by decide +kernel, rfl, by decide +kernel, by decide +kernel⟩
theorem ok_from_where {f : Addr} {fd : FuncData} {cBeneath cBadNumber cNoSuch : Addr} (hB : Cls K cBeneath) (nB : ∀ f ∈ namesB, NoAttr K cBeneath f) (F : FunD K "from_where" "from_where" (defArgs s_from_where) (defBody s_from_where) (defScope s_from_where) [] [] f fd) (c_root_up : Cal P w K mg base 3 "root_up" sp_root_up [] []) (c_ceil_of : Cal P w K mg base 1 "ceil_of" sp_ceil_of [] []) (c_raised : Cal P w K mg base 1 "raised" sp_raised [] []) (c_over : Cal P w K mg base 3 "over" sp_over [] []) (x_BadNumber : XCls K mg "BadNumber" cBadNumber "ValueError" "ValueError.__new__" "ValueError.__init__" He.veBase) (x_NoSuch : XCls K mg "NoSuch" cNoSuch "ValueError" "ValueError.__new__" "ValueError.__init__" He.veBase) :
    FnOk P w K mg base (L2N.CX P w) 4 f fd ["answer", "e"] (lift K (sp_from_where cBeneath cBadNumber cNoSuch)) := by
  refine fn_okX F sc_from_where (fun ds q x h => ?_) (fun cdv A outer s H E B x hx hv hr => ⟨_, _, DSs.d0 (dss_cons (ds_if (dt_le (de_ix (de_var 1) de_int) de_int) (dss_one (ds_raise hv rfl (dmk_own0 x_BadNumber))) dss_nil)
      (dss_cons (ds_if (dt_isB (de_fld (de_var 0)) de_bl) (dss_one (ds_raise hv rfl (dmk_own0 x_NoSuch))) dss_nil)
      (dss_hide (dss_cons (ds_asg (de_call (c_over.mono (by decide)) hr (da_cons (de_fld (de_var 0)) (da_cons (de_var 1) da_nil))) (dg_tup (n := 2) rfl (dgs_cons (dg_name (i := 2) sc_from_where.nd rfl (by first | exact Or.inl rfl | exact Or.inr rfl)) (dgs_cons (dg_name (i := 3) sc_from_where.nd rfl (by first | exact Or.inl rfl | exact Or.inr rfl)) dgs_nil))))
      (dss_cons (ds_if (dt_le (de_var 2) (de_var 3)) (dss_one (ds_ret de_int)) dss_nil)
      (dss_hide (dss_cons (ds_asg (de_fld (de_var 0)) (dg_tup (n := 2) rfl (dgs_cons (dg_name (i := 4) sc_from_where.nd rfl (by first | exact Or.inl rfl | exact Or.inr rfl)) (dgs_cons (dg_name (i := 5) sc_from_where.nd rfl (by first | exact Or.inl rfl | exact Or.inr rfl)) dgs_nil))))
      (dss_one (ds_ret (de_call (c_root_up.mono (by decide)) hr (da_cons (de_call (c_ceil_of.mono (by decide)) hr (da_cons (de_tup (da_cons (de_call (c_raised.mono (by decide)) hr (da_cons (de_var 2) (da_cons (de_var 5) da_nil))) (da_cons (de_call (c_raised.mono (by decide)) hr (da_cons (de_var 3) (da_cons (de_var 5) da_nil))) da_nil))) da_nil)) (da_cons (de_var 4) da_nil)))))))))))), fun ds q h => ?_⟩)
  · obtain ⟨fs, e0, e1, yes, rfl, h⟩ := h
    rfl
  · obtain ⟨fs, e0, e1, yes, rfl, hy, h⟩ := h
    walk_at "r"
    rw [hx]
    refine ⟨fun hle => ?_, fun hgt => ⟨hB, nB _ (by decide), .bl yes, hy, fun hz => ?_, fun hz => ?_⟩⟩
    · rcases h with ⟨_, h⟩ | ⟨h, _⟩ | ⟨_, k0, k1, c, s0, s1, rfl, _, _, ok, _⟩
      · exact h
      · omega
      · have := ok.a3
        omega
    · rcases h with ⟨h, _⟩ | ⟨_, _, h⟩ | ⟨h, _⟩
      · omega
      · exact h
      · rw [h] at hz
        cases hz
    · rcases h with ⟨h, _⟩ | ⟨_, h, _⟩ | ⟨_, k0, k1, c, s0, s1, rfl, hk, hs, ok, h⟩
      · omega
      · exact absurd h hz
      generalize hT : hide (rSeq (rAsg (rUn _ _) _) _) = T
      have tail : ¬ ra (k0 * e1) (k1 * c) ≤ rb (k0 * e1) (k1 * c) → T (kq q) [some (W.v (D.ins cBeneath fs)), some (W.v (D.tup [D.int c, D.int e1])), some (W.v (D.int (ra (k0 * e1) (k1 * c)))), some (W.v (D.int (rb (k0 * e1) (k1 * c)))), none, none] := by
        intro hlt
        rw [← hT]
        clear hT
        show rSeq _ _ _ _
        walk_at "r"
        obtain ⟨A, hA1, hA2, hA3⟩ := ok.A
        have hp1 : 1 ≤ ra (k0 * e1) (k1 * c) := ra_pos (Nat.mul_pos ok.a1 ok.a4)
        have hp2 : 1 ≤ rb (k0 * e1) (k1 * c) := rb_pos (Nat.mul_pos ok.a2 ok.a3)
        unfold FwLeast at h
        generalize ra (k0 * e1) (k1 * c) = a at *
        generalize rb (k0 * e1) (k1 * c) = b at *
        have hb : 0 < b ^ s1 := Nat.pow_pos hp2
        have ha2 : a ^ s1 < 2 ^ 10501 := Nat.lt_of_lt_of_le (pow_lt2 hA1) (Nat.pow_le_pow_right (by decide) (by omega))
        refine ⟨hB, nB _ (by decide), _, hs, ?_⟩
        walk_at "r"
        refine ⟨a, s1, A, rfl, hp1, hA1, by omega, ?_⟩
        walk_at "r"
        refine ⟨b, s1, A, rfl, hp2, hA2, by omega, ?_⟩
        walk_at "r"
        refine ⟨two_le, a ^ s1, b ^ s1, rfl, hb, Nat.lt_of_lt_of_le ha2 (Nat.pow_le_pow_right (by decide) (by decide)), ?_⟩
        walk_at "r"
        refine ⟨(a ^ s1 + b ^ s1 - 1) / b ^ s1, s0, rfl, ?_, ok.d1, ok.d2, fun r hr => h r (least_of hp2 hr)⟩
        refine Nat.lt_of_le_of_lt ((ceil_le hb).mpr (Nat.le_mul_of_pos_right _ hb)) (Nat.lt_of_lt_of_le ha2 (Nat.pow_le_pow_right (by decide) (by decide)))
      clear hT
      show rSeq _ _ (kq q) _
      walk_at "r"
      refine ⟨hB, nB _ (by decide), _, hk, ?_⟩
      walk_at "r"
      refine ⟨k0, k1, c, e1, rfl, ok.a2, ok.a3, ok.b1, ok.b2, ok.b3, ok.b4, ?_⟩
      walk_at "r"
      refine ⟨fun hle => ?_, fun hlt => tail (fun z => hlt ?_)⟩
      · refine h 1 (least_one ?_)
        show (k0 * e1) / _ ≤ (k1 * c) / _
        omega
      · unfold ra rb at z
        omega

theorem sc__law_store : FnScope ["script", "wide", "cells", "cell", "size"] ["script"] (defScope s__law_store) := ⟨rfl, rfl, rfl, by decide +kernel, rfl, by decide +kernel, by decide +kernel⟩
theorem ok__law_store {f : Addr} {fd : FuncData} (F : FunD K "_law_store" "_law_store" (defArgs s__law_store) (defBody s__law_store) (defScope s__law_store) [] [] f fd) (m_int : mg "int" = none) (m_abs : mg "abs" = none) :
    FnOk P w K mg base (L2N.CX P w) 1 f fd ["script"] (lift K sp__law_store) := by
  refine fn_okD F sc__law_store (fun ds q x h => ?_) (fun cdv A outer s H E B hr => ⟨_, _, (dss_cons (ds_set (i := 1) sc__law_store.nd rfl (by first | exact Or.inl rfl | exact Or.inr rfl) (de_pow de_int de_int))
      (dss_cons (ds_set (i := 1) sc__law_store.nd rfl (by first | exact Or.inl rfl | exact Or.inr rfl) (de_mul (de_mul (de_mul (de_var 1) (de_var 1)) (de_var 1)) (de_var 1)))
      (dss_cons (ds_set (i := 1) sc__law_store.nd rfl (by first | exact Or.inl rfl | exact Or.inr rfl) (de_mul (de_mul (de_mul (de_var 1) (de_var 1)) (de_var 1)) (de_var 1)))
      (dss_cons (ds_set (i := 2) sc__law_store.nd rfl (by first | exact Or.inl rfl | exact Or.inr rfl) (de_lst da_nil))
      (dss_cons (ds_for PassesOwn.never rfl (di_seq (de_slice (de_var 0) do_none (do_some de_int))) (dg_name (i := 3) sc__law_store.nd rfl (by first | exact Or.inl rfl | exact Or.inr rfl)) (dss_cons (ds_set (i := 4) sc__law_store.nd rfl (by first | exact Or.inl rfl | exact Or.inr rfl) (de_abs (de_intc (de_var 3) m_int) m_abs))
      (dss_one (ds_if (dt_ge (de_var 4) (de_pow de_int de_int)) (dss_one (ds_expr (de_app 2 (pv 2) (de_tup (da_cons de_int (da_cons (de_mod (de_intc (de_var 4) m_int) (de_var 1)) da_nil)))))) (dss_one (ds_expr (de_app 2 (pv 2) (de_tup (da_cons de_int (da_cons (de_intc (de_var 3) m_int) da_nil))))))))))
      (dss_one (ds_ret (de_lst (da_cons (de_var 2) (da_cons de_int (da_cons de_int (da_cons de_int (da_cons de_int da_nil))))))))))))), fun ds q x h => ?_⟩)
  · obtain ⟨d, rfl, h⟩ := h
    rfl
  · obtain ⟨d, rfl, ⟨ns, hd⟩, h⟩ := h
    walk_at "r"
    have loop : ∀ (Wd : Int), (0 : Int) < Wd → ∀ (ns : List Int) (cells : List D), okCells cells → cells.length + ns.length ≤ 63 → ∀ x3 x4, forD (sgName 3)
                          (rSeq (rSet 4 (rUn gAbs (rUn gInt (rVar 3))))
                            (rIf (rVal (rBin gGe (rVar 4) (rBin gPow (rC (D.int 10)) (rC (D.int 18)))))
                              (rDrop
                                (rApp 2
                                  (rTup (rCons (rC (D.int 1)) (rCons (rBin gMod (rUn gInt (rVar 4)) (rVar 1)) rNil)))))
                              (rDrop (rApp 2 (rTup (rCons (rC (D.int 0)) (rCons (rUn gInt (rVar 3)) rNil)))))))
                          {
                            nx :=
                              rRet
                                (rLst
                                  (rCons (rVar 2)
                                    (rCons (rC (D.int 0))
                                      (rCons (rC (D.int 0)) (rCons (rC (D.int 0)) (rCons (rC (D.int 17574)) rNil))))))
                                { nx := fun x => q (W.v D.non), rt := fun w x => q w, bk := fun x => False,
                                  ct := fun x => False },
                            rt := fun w x => q w, bk := fun x => False, ct := fun x => False }
                          (ns.map D.int) [some (.v d), some (.v (.int Wd)), some (.o cells), x3, x4] := by
      intro Wd hW ns
      have line : 63 < sizeLine := by rw [sizeLine_eq]; decide
      induction ns with
      | nil =>
        intro cells hc hl x3 x4
        unfold forD
        walk_at "r"
        exact ⟨by show 0 + 1 + 1 + 1 + 1 + 1 ≤ sizeLine; omega, h cells hc⟩
      | cons n ns ih =>
        intro cells hc hl x3 x4
        have hl' : cells.length + ns.length + 1 ≤ 63 := by simpa [Nat.add_assoc] using hl
        unfold forD
        walk_at "r"
        have fin : ∀ (a b : Int), okCells (cells ++ [.tup [.int a, .int b]]) := fun a b d hd => by
          rcases List.mem_append.mp hd with hd | hd
          · exact hc d hd
          · exact ⟨a, b, List.mem_singleton.mp hd⟩
        have fin2 : ∀ d : D, (cells ++ [d]).length + ns.length ≤ 63 := fun d => by simp; omega
        refine ⟨by decide, fun _ => ⟨trivial, hW, two_le, (by show cells.length < sizeLine; omega), ih _ (fin _ _) (fin2 _) _ _⟩, fun _ => ⟨trivial, two_le, (by show cells.length < sizeLine; omega), ih _ (fin _ _) (fin2 _) _ _⟩⟩
    have go : ∀ ds : List D, ds = ns.map D.int → ∃ ms : List Int, DL.cut ds none (some 63) = ms.map D.int ∧ ms.length ≤ 63 := by
      rintro ds rfl
      unfold DL.cut
      refine ⟨(ns.drop (HT.sIx (ns.map D.int).length 0 none)).take (HT.sIx (ns.map D.int).length (ns.map D.int).length (some 63) - HT.sIx (ns.map D.int).length 0 none), ?_, ?_⟩
      · rw [List.map_take, List.map_drop]
      · rw [List.length_take]
        refine Nat.le_trans (Nat.min_le_left _ _) ?_
        refine Nat.le_trans (Nat.sub_le _ _) ?_
        unfold HT.sIx
        simp
        omega
    refine ⟨by decide, .inr (.inr (by decide +kernel)), .inr (.inr (by decide +kernel)), .inr (.inr (by decide +kernel)), .inr (.inr (by decide +kernel)), .inr (.inr (by decide +kernel)), .inr (.inr (by decide +kernel)), Nat.zero_le _, ?_⟩
    rcases hd with rfl | rfl
    all_goals
      obtain ⟨ms, e, hl⟩ := go _ rfl
      unfold rSeqIt
      walk_at "r"
      refine ⟨_, rfl, ?_⟩
      rw [e]
      exact loop _ (by decide +kernel) ms [] (fun d hd => by cases hd) (by simpa using hl) _ _

theorem sc__law_take : FnScope ["store", "many", "rest", "cell", "here", "pair", "mixed"] ["store", "many"] (defScope s__law_take) := ⟨rfl, rfl, rfl, by decide +kernel, rfl, by decide +kernel, by decide +kernel⟩
theorem ok__law_take {f : Addr} {fd : FuncData} (F : FunD K "_law_take" "_law_take" (defArgs s__law_take) (defBody s__law_take) (defScope s__law_take) [] [] f fd) (m_int : mg "int" = none) (m_len : mg "len" = none) (m_max : mg "max" = none) :
    FnOk P w K mg base (L2N.CX P w) 1 f fd ["store", "many"] (lift K sp__law_take) := by
  refine fn_okD F sc__law_take (fun ds q x h => ?_) (fun cdv A outer s H E B hr => ⟨_, _, (dss_cons (ds_set (i := 1) sc__law_take.nd rfl (by first | exact Or.inl rfl | exact Or.inr rfl) (de_max2 (da_cons de_int (da_cons (de_intc (de_var 1) m_int) da_nil)) m_max))
      (dss_cons (ds_if (dt_eq hr.units (de_var 1) de_int) (dss_one (ds_ret de_int)) dss_nil)
      (dss_cons (ds_if (dt_gt (de_sto 0 (pv 0)) de_int) (dss_cons (ds_set (i := 2) sc__law_take.nd rfl (by first | exact Or.inl rfl | exact Or.inr rfl) (de_sto 0 (pv 0)))
      (dss_cons (ds_sto 0 (pv 0) (de_fdiv (de_var 2) (de_var 1)))
      (dss_one (ds_ret (de_mod (de_intc (de_var 2) m_int) (de_var 1)))))) dss_nil)
      (dss_hide (dss_cons (ds_sto 0 (pv 0) (de_add (de_sto 0 (pv 0)) de_int))
      (dss_cons (ds_set (i := 3) sc__law_take.nd rfl (by first | exact Or.inl rfl | exact Or.inr rfl) de_int)
      (dss_cons (ds_set (i := 4) sc__law_take.nd rfl (by first | exact Or.inl rfl | exact Or.inr rfl) de_int)
      (dss_cons (ds_stoIf 0 5 (fun _ => pv 0) sc__law_take.nd rfl (by first | exact Or.inl rfl | exact Or.inr rfl) (dss_cons (ds_sto 0 (pv 0) (de_add (de_sto 0 (pv 0)) de_int))
      (dss_cons (ds_set (i := 3) sc__law_take.nd rfl (by first | exact Or.inl rfl | exact Or.inr rfl) (de_ix (de_var 5) de_int))
      (dss_cons (ds_set (i := 4) sc__law_take.nd rfl (by first | exact Or.inl rfl | exact Or.inr rfl) de_int)
      (dss_one (ds_if (DW.dt (dw_and (dt_eq hr.units (de_ix (de_var 5) de_int) de_int) (dw_and1 (dt_gt (de_var 3) de_int)))) (dss_cons (ds_sto 0 (pv 0) (de_mod (de_intc (de_add (de_add (de_mul (de_sto 0 (pv 0)) de_int) (de_var 3)) (de_sto 0 (pv 0))) m_int) de_int))
      (dss_cons (ds_sto 0 (pv 0) (de_fdiv (de_var 3) (de_var 1)))
      (dss_one (ds_ret (de_mod (de_intc (de_var 3) m_int) (de_var 1)))))) dss_nil))))) (pe_callB (call_len_seq.or call_len_str) (by rfl) m_len PySem.boot_len (pa_cons (pe_ix ix_seq (pv 0) pe_int fun _ _ => rfl) pa_nil)))
      (dss_hide (dss_cons (ds_set (i := 6) sc__law_take.nd rfl (by first | exact Or.inl rfl | exact Or.inr rfl) (de_add (de_add (de_add (de_mul (de_sto 0 (pv 0)) de_int) (de_mul (de_sto 0 (pv 0)) de_int)) (de_mul (de_var 3) de_int)) (de_var 4)))
      (dss_hide (dss_cons (ds_set (i := 6) sc__law_take.nd rfl (by first | exact Or.inl rfl | exact Or.inr rfl) (de_mod (de_intc (de_var 6) m_int) de_int))
      (dss_hide (dss_cons (ds_set (i := 6) sc__law_take.nd rfl (by first | exact Or.inl rfl | exact Or.inr rfl) (de_mod (de_intc (de_add (de_add (de_mul (de_var 6) (de_var 6)) (de_mul (de_sto 0 (pv 0)) de_int)) (de_var 3)) m_int) de_int))
      (dss_hide (dss_cons (ds_set (i := 6) sc__law_take.nd rfl (by first | exact Or.inl rfl | exact Or.inr rfl) (de_mod (de_intc (de_add (de_mul (de_var 6) de_int) de_int) m_int) de_int))
      (dss_cons (ds_set (i := 6) sc__law_take.nd rfl (by first | exact Or.inl rfl | exact Or.inr rfl) (de_mod (de_intc (de_add (de_mul (de_var 6) (de_var 6)) (de_sto 0 (pv 0))) m_int) de_int))
      (dss_cons (ds_sto 0 (pv 0) (de_var 6))
      (dss_one (ds_ret (de_mod (de_intc (de_fdiv (de_var 6) de_int) m_int) (de_var 1)))))))))))))))))))))), fun ds q x h => ?_⟩)
  · obtain ⟨n, rfl, h⟩ := h
    rfl
  · obtain ⟨n, rfl, hn, h⟩ := h
    have hq : ∀ M : Nat, M = max 1 n → ∀ m : Int, q (.v (.int (m % (M : Int)))) := fun M hM m => by
      have h1 := Int.emod_nonneg m (show (M : Int) ≠ 0 by omega)
      have h2 := Int.emod_lt_of_pos m (show (0 : Int) < M by omega)
      have h3 := h (m % (M : Int)).toNat (by omega)
      rw [Int.toNat_of_nonneg h1] at h3
      exact h3
    walk_at "r"
    have e1 : (if (n : Int) > 1 then (n : Int) else 1) = ((max 1 n : Nat) : Int) := by split <;> omega
    rw [e1]
    generalize hM : max 1 n = M at h
    have hM2 : M < 2 ^ 60 := by omega
    have hM1 : 1 ≤ M := by omega
    have hqM := hq M hM.symm
    have hf : ∀ m : Int, FdOk m (M : Int) := fun m => ⟨by omega, .inl (by rw [Int.natAbs_natCast]; have := log2_of hM2 (by decide); omega)⟩
    have hpos : (0 : Int) < M := by omega
    refine ⟨fun _ => h 0 (by omega), fun _ => ⟨by decide, by decide, fun m _ => ⟨fun _ => ⟨by decide, by decide, fun m _ => ⟨by decide, by decide, hf _, fun z => by omega, hpos, hqM _⟩⟩, fun _ => ?_⟩⟩⟩
    have hm1 : ∀ m c : Int, -(2 ^ 64) < c → c < 2 ^ 64 → DL.MulOk m c := fun m c h1 h2 => .inr (.inl ⟨h1, h2⟩)
    have hm2 : ∀ x y : Int, DL.MulOk (x % 2305843009213693951) y := fun x y => .inl ⟨by omega, by omega⟩
    have c1 := fun m => hm1 m 6364136223846793005 (by decide) (by decide)
    have c2 := fun m => hm1 m 1442695040888963407 (by decide) (by decide)
    have c3 := fun m => hm1 m 1181783497276652981 (by decide) (by decide)
    have c4 := fun m => hm1 m 69621 (by decide) (by decide)
    have hk : ∀ m : Int, FdOk m 1024 := fun m => ⟨by decide, .inl (by decide)⟩
    have hN : (0 : Int) < 2305843009213693951 := by decide
    generalize hT : hide (rSeq (rSet 6 _) _) = T
    have tail : ∀ (c h' : Int) (p : Option W), T (kq q) [some (W.v D.sto), some (W.v (D.int M)), none, some (W.v (D.int c)), some (W.v (D.int h')), p, none] := by
      intro c h' p
      rw [← hT]
      clear hT
      generalize hT2 : hide (rSeq (rSet 6 (rBin gMod (rUn gInt (rVar 6)) _)) _) = T2
      have tail2 : ∀ y : Int, T2 (kq q) [some (W.v D.sto), some (W.v (D.int M)), none, some (W.v (D.int c)), some (W.v (D.int h')), p, some (W.v (D.int y))] := by
        intro y
        rw [← hT2]
        clear hT2
        generalize hT3 : hide (rSeq (rSet 6 (rBin gMod (rUn gInt (rBin gAdd (rBin gAdd _ _) _)) _)) _) = T3
        have tail3 : ∀ y : Int, T3 (kq q) [some (W.v D.sto), some (W.v (D.int M)), none, some (W.v (D.int c)), some (W.v (D.int h')), p, some (W.v (D.int (y % 2305843009213693951)))] := by
          intro y
          rw [← hT3]
          clear hT3
          generalize hT4 : hide (rSeq (rSet 6 (rBin gMod (rUn gInt (rBin gAdd (rBin gMul (rVar 6) (rC (D.int 2862933555777941757))) _)) _)) _) = T4
          have tail4 : ∀ y : Int, T4 (kq q) [some (W.v D.sto), some (W.v (D.int M)), none, some (W.v (D.int c)), some (W.v (D.int h')), p, some (W.v (D.int (y % 2305843009213693951)))] := by
            intro y
            rw [← hT4]
            clear hT4
            show rSeq _ _ _ _
            walk_at "r"
            exact ⟨hm2 _ _, hN, hm2 _ _, by decide, by decide, fun m _ => ⟨hN, by decide, by decide, fun z => by omega, hk _, hpos, hqM _⟩⟩
          show rSeq _ _ _ _
          walk_at "r"
          exact ⟨hm2 _ _, by decide, by decide, fun m _ => ⟨c4 _, hN, tail4 _⟩⟩
        show rSeq _ _ _ _
        walk_at "r"
        exact ⟨hN, tail3 _⟩
      show rSeq _ _ _ _
      walk_at "r"
      exact ⟨by decide, by decide, fun m _ => ⟨c1 _, by decide, by decide, fun m' _ => ⟨c2 _, c3 _, tail2 _⟩⟩⟩
    clear hT
    show rSeq _ _ (kq q) _
    walk_at "r"
    refine ⟨by decide, by decide, by decide, by decide, fun m _ => ⟨fun z => by omega, fun a b => ?_, tail _ _ _⟩⟩
    refine ⟨by decide, by decide, by decide, by decide, fun m h1 => ⟨fun _ => by have := h1 trivial; omega, ?_⟩⟩
    exact ⟨fun _ => ⟨fun _ => ⟨by decide, by decide, by decide, by decide, fun m _ => ⟨c1 _, by decide, by decide, fun m' _ => ⟨hN, fun z => by omega, by decide, by decide, hf _, fun z => by omega, hpos, hqM _⟩⟩⟩, fun _ => tail _ _ _⟩, fun _ => ⟨(fun z => nomatch z), fun _ => tail _ _ _⟩⟩

end
end Cl

set_option maxHeartbeats 2000000
set_option exponentiation.threshold 200000
namespace Cl
open PySem PySem.Spec L2 DL M
local macro_rules | `(tactic| walk_at "d") => `(tactic| dsimp only [rSeq, rSet, rUn, rVar, rMov, rC, rBin, rBinP', rBinP, rCall, rCons, rNil, rTup, rLst, rIf, rRet, rRetN, rVal, rTru, rNot, rAnd, rOr, rAndV, rOrV, gNot, rIfE, rNext, rBreak, rCont, rDrop, rPar, rFor, gt, st, frz, gAdd, DL.gSub, gMul, gFdiv, gMod, gPow, gShr, gShl, gAnd, gNeg, gLt, gLe, gGt, gGe, gEq, gNe, okW, eqW, gAbs, gInt, gLen, wipeE, sgName, sgTup, sgCons, sgNil, rAsg, startE, List.length, rPk, gIsB, gNotB, isN, rIsN, rNotN, rMax2, rMin2, rNever, gBits, List.append_nil, rSto, rStoSet, rStoIf, rApp, rPop0, isOwn, rSl, rSlP, rNoPart, rPart, gCut, itL, gFld, rRaise, rMk0, rMakeK, rCnt, gCnt, gIx, gIsi, tyW, rIsX])
local macro_rules | `(tactic| walk_at "r") => `(tactic| (try walk_at "d"; try simp only [at0, at1, at2, at3, Option.some.injEq, exists_eq_left', true_and, and_true, Bool.not_eq_true', Bool.not_eq_false', decide_eq_true_eq, decide_eq_false_iff_not, List.append_nil, List.cons_append, List.nil_append]; try walk_at "d"; try simp only [at0, at1, at2, at3, Option.some.injEq, exists_eq_left', true_and, and_true, Bool.not_eq_true', Bool.not_eq_false', decide_eq_true_eq, decide_eq_false_iff_not]))

section
variable {P : Program} {w : World} {K : PySem.W.Frag} {mg : Str → Option Value} {base : Heap}
theorem sc__law_chance : FnScope ["store", "some", "many"] ["store", "some", "many"] (defScope s__law_chance) := ⟨rfl, rfl, rfl, by decide +kernel, rfl, by decide +kernel, by decide +kernel⟩
theorem ok__law_chance {f : Addr} {fd : FuncData} (F : FunD K "_law_chance" "_law_chance" (defArgs s__law_chance) (defBody s__law_chance) (defScope s__law_chance) [] [] f fd) (c__law_take : Cal P w K mg base 1 "_law_take" sp__law_take [] []) :
    FnOk P w K mg base (L2N.CX P w) 2 f fd ["store", "some", "many"] (lift K sp__law_chance) := by
  refine fn_okD F sc__law_chance (fun ds q x h => ?_) (fun cdv A outer s H E B hr => ⟨_, _, (dss_one (ds_ret (de_lt (de_call (c__law_take.mono (by decide)) hr (da_cons (de_var 0) (da_cons (de_var 2) da_nil))) (de_var 1)))), fun ds q x h => ?_⟩)
  · obtain ⟨a, n, rfl, h⟩ := h
    rfl
  · obtain ⟨a, n, rfl, hn, h⟩ := h
    walk_at "r"
    refine ⟨n, rfl, hn, fun r hr => ?_⟩
    walk_at "r"
    exact h _

theorem sc__law_pick : FnScope ["store", "items"] ["store", "items"] (defScope s__law_pick) := ⟨rfl, rfl, rfl, by decide +kernel, rfl, by decide +kernel, by decide +kernel⟩
theorem ok__law_pick {f : Addr} {fd : FuncData} (F : FunD K "_law_pick" "_law_pick" (defArgs s__law_pick) (defBody s__law_pick) (defScope s__law_pick) [] [] f fd) (c__law_take : Cal P w K mg base 1 "_law_take" sp__law_take [] []) (m_len : mg "len" = none) :
    FnOk P w K mg base (L2N.CX P w) 2 f fd ["store", "items"] (lift K sp__law_pick) := by
  refine fn_okD F sc__law_pick (fun ds q x h => ?_) (fun cdv A outer s H E B hr => ⟨_, _, (dss_one (ds_ret (de_ix (de_var 1) (de_call (c__law_take.mono (by decide)) hr (da_cons (de_var 0) (da_cons (de_len (de_var 1) m_len) da_nil)))))), fun ds q x h => ?_⟩)
  · obtain ⟨xs, rfl, h⟩ := h
    rfl
  · obtain ⟨xs, rfl, hne, hl, h⟩ := h
    walk_at "r"
    refine ⟨xs.length, rfl, by omega, fun r hr => ?_⟩
    have hp : 0 < xs.length := List.length_pos_iff.mpr hne
    have hr' : r < xs.length := by omega
    walk_at "r"
    refine ⟨xs[r], ?_, h _ (List.getElem_mem hr')⟩
    unfold L2.atI ixN
    rw [if_pos (by omega), if_pos (by omega)]
    simp

theorem sc__law_gcd : FnScope ["one", "two", "rest"] ["one", "two"] (defScope s__law_gcd) := ⟨rfl, rfl, rfl, by decide +kernel, rfl, by decide +kernel, by decide +kernel⟩
theorem ok__law_gcd {f : Addr} {fd : FuncData} (F : FunD K "_law_gcd" "_law_gcd" (defArgs s__law_gcd) (defBody s__law_gcd) (defScope s__law_gcd) [] [] f fd) (m_int : mg "int" = none) (m_abs : mg "abs" = none) :
    FnOk P w K mg base (L2N.CX P w) 1 f fd ["one", "two"] (lift K sp__law_gcd) := by
  refine fn_okD F sc__law_gcd (fun ds q x h => ?_) (fun cdv A outer s H E B hr => ⟨_, _, (dss_cons (ds_set (i := 0) sc__law_gcd.nd rfl (by first | exact Or.inl rfl | exact Or.inr rfl) (de_abs (de_var 0) m_abs))
      (dss_cons (ds_set (i := 1) sc__law_gcd.nd rfl (by first | exact Or.inl rfl | exact Or.inr rfl) (de_abs (de_var 1) m_abs))
      (dss_cons (ds_while PassesOwn.never (dt_ne hr.units (de_var 1) de_int) (dss_cons (ds_set (i := 2) sc__law_gcd.nd rfl (by first | exact Or.inl rfl | exact Or.inr rfl) (de_mod (de_intc (de_var 0) m_int) (de_var 1)))
      (dss_cons (ds_set (i := 0) sc__law_gcd.nd rfl (by first | exact Or.inl rfl | exact Or.inr rfl) (de_var 1))
      (dss_one (ds_set (i := 1) sc__law_gcd.nd rfl (by first | exact Or.inl rfl | exact Or.inr rfl) (de_var 2))))))
      (dss_one (ds_ret (de_mov 0)))))), fun ds q x h => ?_⟩)
  · obtain ⟨a, b, rfl, h⟩ := h
    rfl
  · obtain ⟨a, b, rfl, h⟩ := h
    walk_at "d"
    rw [if_neg (by omega), if_neg (by omega)]
    refine while_by (α := Nat × Nat × Option W) (fun p => [some (.v (.int p.1)), some (.v (.int p.2.1)), p.2.2]) (fun p => Nat.gcd p.1 p.2.1 = Nat.gcd a b) (fun p => p.2.1) (a, b, none) rfl ?_
    rintro ⟨x, y, r⟩ hg
    walk_at "r"
    dsimp only at hg
    refine ⟨fun hc => ⟨by omega, x % y, Nat.mod_lt _ (by omega), (y, x % y, some (.v (.int ((x % y : Nat) : Int)))), by dsimp only; rw [Int.natCast_emod], gcd_step.trans hg, rfl⟩, fun hc => ?_⟩
    have hy : y = 0 := by omega
    subst hy
    rw [Nat.gcd_zero_right] at hg
    rw [hg]
    exact h

theorem sc__law_frac : FnScope ["one", "two", "part"] ["one", "two"] (defScope s__law_frac) := ⟨rfl, rfl, rfl, by decide +kernel, rfl, by decide +kernel, by decide +kernel⟩
theorem ok__law_frac {f : Addr} {fd : FuncData} (F : FunD K "_law_frac" "_law_frac" (defArgs s__law_frac) (defBody s__law_frac) (defScope s__law_frac) [] [] f fd) (c__law_gcd : Cal P w K mg base 1 "_law_gcd" sp__law_gcd [] []) :
    FnOk P w K mg base (L2N.CX P w) 2 f fd ["one", "two"] (lift K sp__law_frac) := by
  refine fn_okD F sc__law_frac (fun ds q x h => ?_) (fun cdv A outer s H E B hr => ⟨_, _, (dss_cons (ds_if (DW.dt (dw_or (dt_eq hr.units (de_var 0) de_int) (dw_or1 (dt_eq hr.units (de_var 1) de_int)))) (dss_one (ds_ret (de_tup (da_cons de_int (da_cons de_int da_nil))))) dss_nil)
      (dss_cons (ds_if (dt_lt (de_var 1) de_int) (dss_cons (ds_set (i := 0) sc__law_frac.nd rfl (by first | exact Or.inl rfl | exact Or.inr rfl) (de_neg (de_var 0)))
      (dss_one (ds_set (i := 1) sc__law_frac.nd rfl (by first | exact Or.inl rfl | exact Or.inr rfl) (de_neg (de_var 1))))) dss_nil)
      (dss_cons (ds_set (i := 2) sc__law_frac.nd rfl (by first | exact Or.inl rfl | exact Or.inr rfl) (de_call (c__law_gcd.mono (by decide)) hr (da_cons (de_var 0) (da_cons (de_var 1) da_nil))))
      (dss_one (ds_ret (de_tup (da_cons (de_fdiv (de_var 0) (de_var 2)) (da_cons (de_fdiv (de_var 1) (de_var 2)) da_nil)))))))), fun ds q x h => ?_⟩)
  · obtain ⟨a, b, rfl, h⟩ := h
    rfl
  · obtain ⟨a, b, rfl, ha, hb, hl, h⟩ := h
    walk_at "r"
    refine ⟨fun e => absurd e (by omega), fun _ => ⟨fun e => absurd e (by omega), fun _ => ⟨fun e => absurd e (by omega), fun _ => ?_⟩⟩⟩
    refine ⟨a, b, rfl, ?_⟩
    have hg : 0 < Nat.gcd a b := Nat.gcd_pos_of_pos_right a hb
    have hgl : (Nat.gcd a b).log2 < 9000 := by
      have h1 : Nat.gcd a b ≤ b := Nat.gcd_le_right a hb
      have := (Nat.log2_lt (by omega)).mp hl
      exact (Nat.log2_lt (by omega)).mpr (Nat.lt_of_le_of_lt h1 this)
    walk_at "r"
    exact ⟨fdOk hg (.inl hgl), fdOk hg (.inl hgl), two_le, by rw [← Int.natCast_ediv, ← Int.natCast_ediv]; exact h⟩

theorem sc__law_mul : FnScope ["one", "two"] ["one", "two"] (defScope s__law_mul) := ⟨rfl, rfl, rfl, by decide +kernel, rfl, by decide +kernel, by decide +kernel⟩
theorem ok__law_mul {f : Addr} {fd : FuncData} (F : FunD K "_law_mul" "_law_mul" (defArgs s__law_mul) (defBody s__law_mul) (defScope s__law_mul) [] [] f fd) (c__law_frac : Cal P w K mg base 2 "_law_frac" sp__law_frac [] []) :
    FnOk P w K mg base (L2N.CX P w) 3 f fd ["one", "two"] (lift K sp__law_mul) := by
  refine fn_okD F sc__law_mul (fun ds q x h => ?_) (fun cdv A outer s H E B hr => ⟨_, _, (dss_one (ds_ret (de_call (c__law_frac.mono (by decide)) hr (da_cons (de_mul (de_ix (de_var 0) de_int) (de_ix (de_var 1) de_int)) (da_cons (de_mul (de_ix (de_var 0) de_int) (de_ix (de_var 1) de_int)) da_nil))))), fun ds q x h => ?_⟩)
  · obtain ⟨a, b, c, d, rfl, h⟩ := h
    rfl
  · obtain ⟨a, b, c, d, rfl, ha, hb, hc, hd, h1, h2, h3, h4, h⟩ := h
    walk_at "r"
    refine ⟨mulOk h1 h3 (by decide) (by decide) (by decide), mulOk h2 h4 (by decide) (by decide) (by decide), a * c, b * d, by rw [Int.natCast_mul, Int.natCast_mul], Nat.mul_pos ha hc, Nat.mul_pos hb hd, ?_, h⟩
    have := log2_of (lt60 h2 h4) (by decide)
    omega

theorem sc__law_div : FnScope ["one", "two"] ["one", "two"] (defScope s__law_div) := ⟨rfl, rfl, rfl, by decide +kernel, rfl, by decide +kernel, by decide +kernel⟩
theorem ok__law_div {f : Addr} {fd : FuncData} (F : FunD K "_law_div" "_law_div" (defArgs s__law_div) (defBody s__law_div) (defScope s__law_div) [] [] f fd) (c__law_frac : Cal P w K mg base 2 "_law_frac" sp__law_frac [] []) :
    FnOk P w K mg base (L2N.CX P w) 3 f fd ["one", "two"] (lift K sp__law_div) := by
  refine fn_okD F sc__law_div (fun ds q x h => ?_) (fun cdv A outer s H E B hr => ⟨_, _, (dss_one (ds_ret (de_call (c__law_frac.mono (by decide)) hr (da_cons (de_mul (de_ix (de_var 0) de_int) (de_ix (de_var 1) de_int)) (da_cons (de_mul (de_ix (de_var 0) de_int) (de_ix (de_var 1) de_int)) da_nil))))), fun ds q x h => ?_⟩)
  · obtain ⟨a, b, c, d, rfl, h⟩ := h
    rfl
  · obtain ⟨a, b, c, d, rfl, ha, hb, hc, hd, h1, h2, h3, h4, h⟩ := h
    walk_at "r"
    refine ⟨mulOk h1 h4 (by decide) (by decide) (by decide), mulOk h2 h3 (by decide) (by decide) (by decide), a * d, b * c, by rw [Int.natCast_mul, Int.natCast_mul], Nat.mul_pos ha hd, Nat.mul_pos hb hc, ?_, h⟩
    have := log2_of (lt60 h2 h3) (by decide)
    omega

theorem sc__law_pow : FnScope ["number", "times_by", "found", "square", "left"] ["number", "times_by"] (defScope s__law_pow) := ⟨rfl, rfl, rfl, by decide +kernel, rfl, by decide +kernel, by decide +kernel⟩
theorem ok__law_pow {f : Addr} {fd : FuncData} (F : FunD K "_law_pow" "_law_pow" (defArgs s__law_pow) (defBody s__law_pow) (defScope s__law_pow) [] [] f fd) (m_int : mg "int" = none) (m_max : mg "max" = none) :
    FnOk P w K mg base (L2N.CX P w) 1 f fd ["number", "times_by"] (lift K sp__law_pow) := by
  refine fn_okD F sc__law_pow (fun ds q x h => ?_) (fun cdv A outer s H E B hr => ⟨_, _, (dss_cons (ds_set (i := 2) sc__law_pow.nd rfl (by first | exact Or.inl rfl | exact Or.inr rfl) de_int)
      (dss_cons (ds_set (i := 3) sc__law_pow.nd rfl (by first | exact Or.inl rfl | exact Or.inr rfl) (de_var 0))
      (dss_cons (ds_set (i := 4) sc__law_pow.nd rfl (by first | exact Or.inl rfl | exact Or.inr rfl) (de_max2 (da_cons de_int (da_cons (de_var 1) da_nil)) m_max))
      (dss_cons (ds_while PassesOwn.never (dt_gt (de_var 4) de_int) (dss_cons (ds_if (dt_eq hr.units (de_mod (de_intc (de_var 4) m_int) de_int) de_int) (dss_one (ds_set (i := 2) sc__law_pow.nd rfl (by first | exact Or.inl rfl | exact Or.inr rfl) (de_mul (de_var 2) (de_var 3)))) dss_nil)
      (dss_cons (ds_set (i := 4) sc__law_pow.nd rfl (by first | exact Or.inl rfl | exact Or.inr rfl) (de_fdiv (de_var 4) de_int))
      (dss_one (ds_if (dt_gt (de_var 4) de_int) (dss_one (ds_set (i := 3) sc__law_pow.nd rfl (by first | exact Or.inl rfl | exact Or.inr rfl) (de_mul (de_var 3) (de_var 3)))) dss_nil)))))
      (dss_one (ds_ret (de_mov 2))))))), fun ds q x h => ?_⟩)
  · obtain ⟨n, e, L, rfl, h⟩ := h
    rfl
  · obtain ⟨n, e, L, rfl, hn, hL, hLe, h⟩ := h
    walk_at "r"
    have e0 : (if (e : Int) > 0 then (e : Int) else 0) = (e : Int) := by split <;> omega
    rw [e0]
    refine while_by (α := Nat × Nat × Nat) (fun p => [some (.v (.int n)), some (.v (.int e)), some (.v (.int p.2.2)), some (.v (.int p.1)), some (.v (.int p.2.1))]) (fun p => 1 ≤ p.1 ∧ 1 ≤ p.2.2 ∧ p.2.2 * p.1 ^ p.2.1 = n ^ e) (fun p => p.2.1) (n, e, 1) ⟨hn, Nat.le_refl 1, Nat.one_mul _⟩ ?_
    rintro ⟨x, y, p⟩ ⟨hx, hp, hg⟩
    walk_at "r"
    dsimp only at hx hp hg
    have hP : n ^ e < 2 ^ 100001 := Nat.lt_of_lt_of_le (pow_lt2 hL) (Nat.pow_le_pow_right (by decide) (by omega))
    have hxy : 1 ≤ x ^ y := Nat.pow_pos hx
    have hpP : p ≤ n ^ e := by rw [← hg]; exact Nat.le_mul_of_pos_right p hxy
    have e2 : (y : Int) / 2 = ((y / 2 : Nat) : Int) := by omega
    rw [e2]
    have nxt : 0 < y → ∀ x' p' : Nat, (0 < y / 2 → x' = x * x) → (y / 2 = 0 → x' = x) → p' = p * x ^ (y % 2) → ∃ m', m' < y ∧ ∃ a' : Nat × Nat × Nat, [some (W.v (D.int n)), some (W.v (D.int e)), some (W.v (D.int (p' : Nat))), some (W.v (D.int (x' : Nat))), some (W.v (D.int (y / 2 : Nat)))] = [some (W.v (D.int n)), some (W.v (D.int e)), some (W.v (D.int a'.2.2)), some (W.v (D.int a'.1)), some (W.v (D.int a'.2.1))] ∧ (1 ≤ a'.1 ∧ 1 ≤ a'.2.2 ∧ a'.2.2 * a'.1 ^ a'.2.1 = n ^ e) ∧ m' = a'.2.1 := fun hy x' p' h1 h2 h3 => by
      refine ⟨y / 2, by omega, (x', y / 2, p'), rfl, ⟨?_, ?_, ?_⟩, rfl⟩
      · dsimp only
        by_cases hz : y / 2 = 0
        · rw [h2 hz]; exact hx
        · rw [h1 (by omega)]; exact Nat.mul_pos hx hx
      · dsimp only
        rw [h3]
        exact Nat.mul_pos hp (Nat.pow_pos hx)
      · dsimp only
        rw [← hg, pow_half x y, h3, Nat.mul_assoc]
        by_cases hz : y / 2 = 0
        · rw [hz, Nat.pow_zero, Nat.pow_zero, Nat.mul_one, Nat.one_mul]
        · rw [h1 (by omega), Nat.mul_comm (x ^ (y % 2))]
    have hxP : 0 < y → x ≤ n ^ e := fun hy => by
      rw [← hg]
      exact Nat.le_trans (le_pow hx hy) (Nat.le_mul_of_pos_left _ hp)
    have hm : 0 < y → DL.MulOk (p : Int) (x : Int) := fun hy => mulOk (Nat.lt_of_le_of_lt hpP hP) (Nat.lt_of_le_of_lt (hxP hy) hP) (by decide) (by decide) (by decide)
    have hm2 : 0 < y → DL.MulOk (x : Int) (x : Int) := fun hy => mulOk (Nat.lt_of_le_of_lt (hxP hy) hP) (Nat.lt_of_le_of_lt (hxP hy) hP) (by decide) (by decide) (by decide)
    have hfd : FdOk (y : Int) 2 := ⟨by decide, .inl (by decide)⟩
    refine ⟨fun hy => ⟨by decide, fun ho => ?_, fun ho => ?_⟩, fun hy => ?_⟩
    · have hy' : 0 < y := by omega
      have ho' : y % 2 = 1 := by omega
      refine ⟨hm hy', hfd, fun hz => ⟨hm2 hy', ?_⟩, fun hz => ?_⟩
      · rw [← Int.natCast_mul, ← Int.natCast_mul]
        exact nxt hy' _ _ (fun _ => rfl) (fun z => by omega) (by rw [ho', Nat.pow_one])
      · rw [← Int.natCast_mul]
        exact nxt hy' _ _ (fun z => by omega) (fun _ => rfl) (by rw [ho', Nat.pow_one])
    · have hy' : 0 < y := by omega
      have ho' : y % 2 = 0 := by omega
      refine ⟨hfd, fun hz => ⟨hm2 hy', ?_⟩, fun hz => ?_⟩
      · rw [← Int.natCast_mul]
        exact nxt hy' _ _ (fun _ => rfl) (fun z => by omega) (by rw [ho', Nat.pow_zero, Nat.mul_one])
      · exact nxt hy' _ _ (fun z => by omega) (fun _ => rfl) (by rw [ho', Nat.pow_zero, Nat.mul_one])
    · have hy' : y = 0 := by omega
      subst hy'
      rw [Nat.pow_zero, Nat.mul_one] at hg
      rw [hg]
      exact h

theorem sc__law_fraction : FnScope ["store", "great"] ["store", "great"] (defScope s__law_fraction) := ⟨rfl, rfl, rfl, by decide +kernel, rfl, by decide +kernel, by decide +kernel⟩
theorem ok__law_fraction {f : Addr} {fd : FuncData} (F : FunD K "_law_fraction" "_law_fraction" (defArgs s__law_fraction) (defBody s__law_fraction) (defScope s__law_fraction) [] [] f fd) (c__law_frac : Cal P w K mg base 2 "_law_frac" sp__law_frac [] []) (c__law_take : Cal P w K mg base 1 "_law_take" sp__law_take [] []) :
    FnOk P w K mg base (L2N.CX P w) 3 f fd ["store", "great"] (lift K sp__law_fraction) := by
  refine fn_okD F sc__law_fraction (fun ds q x h => ?_) (fun cdv A outer s H E B hr => ⟨_, _, (dss_one (ds_ret (de_call (c__law_frac.mono (by decide)) hr (da_cons (de_add de_int (de_call (c__law_take.mono (by decide)) hr (da_cons (de_var 0) (da_cons (de_var 1) da_nil)))) (da_cons (de_add de_int (de_call (c__law_take.mono (by decide)) hr (da_cons (de_var 0) (da_cons (de_var 1) da_nil)))) da_nil))))), fun ds q x h => ?_⟩)
  · obtain ⟨g, rfl, h⟩ := h
    rfl
  · obtain ⟨g, rfl, h1, h2, h⟩ := h
    walk_at "r"
    refine ⟨g, rfl, h2, fun r hr => ?_⟩
    walk_at "r"
    refine ⟨g, rfl, h2, fun r' hr' => ?_⟩
    walk_at "r"
    have e1 : (1 : Int) + (r : Int) = ((1 + r : Nat) : Int) := by omega
    have e2 : (1 : Int) + (r' : Int) = ((1 + r' : Nat) : Int) := by omega
    rw [e1, e2]
    have h60 := log2_of h2 (by decide)
    refine ⟨1 + r, 1 + r', rfl, by omega, by omega, ?_, h _ _ (by omega) (by omega) (by omega) (by omega)⟩
    have := log2_of (n := 1 + r') (k := 60) (by omega) (by decide)
    omega

end
end Cl

set_option maxHeartbeats 2000000
set_option exponentiation.threshold 200000
namespace Cl
open PySem PySem.Spec L2 DL M
local macro_rules | `(tactic| walk_at "d") => `(tactic| dsimp only [rSeq, rSet, rUn, rVar, rMov, rC, rBin, rBinP', rBinP, rCall, rCons, rNil, rTup, rLst, rIf, rRet, rRetN, rVal, rTru, rNot, rAnd, rOr, rAndV, rOrV, gNot, rIfE, rNext, rBreak, rCont, rDrop, rPar, rFor, gt, st, frz, gAdd, DL.gSub, gMul, gFdiv, gMod, gPow, gShr, gShl, gAnd, gNeg, gLt, gLe, gGt, gGe, gEq, gNe, okW, eqW, gAbs, gInt, gLen, wipeE, sgName, sgTup, sgCons, sgNil, rAsg, startE, List.length, rPk, gIsB, gNotB, isN, rIsN, rNotN, rMax2, rMin2, rNever, gBits, List.append_nil, rSto, rStoSet, rStoIf, rApp, rPop0, isOwn, rSl, rSlP, rNoPart, rPart, gCut, itL, gFld, rRaise, rMk0, rMakeK, rCnt, gCnt, gIx, gIsi, tyW, rIsX])
local macro_rules | `(tactic| walk_at "r") => `(tactic| (try walk_at "d"; try simp only [at0, at1, at2, at3, Option.some.injEq, exists_eq_left', true_and, and_true, Bool.not_eq_true', Bool.not_eq_false', decide_eq_true_eq, decide_eq_false_iff_not, List.append_nil, List.cons_append, List.nil_append]; try walk_at "d"; try simp only [at0, at1, at2, at3, Option.some.injEq, exists_eq_left', true_and, and_true, Bool.not_eq_true', Bool.not_eq_false', decide_eq_true_eq, decide_eq_false_iff_not]))

section
variable {P : Program} {w : World} {K : PySem.W.Frag} {mg : Str → Option Value} {base : Heap}
theorem sc__law_only : FnScope ["e", "spot", "found"] ["e", "spot"] (defScope s__law_only) := ⟨rfl, rfl, rfl, by decide +kernel, rfl, by decide +kernel, by decide +kernel⟩
theorem ok__law_only {f : Addr} {fd : FuncData} {cBN cNS : Addr} (kB : ∀ x ∈ names21, PySem.W.kitOne K (.ref cBN) (.ref (He.ga K x)) = some (x == "BadNumber")) (kN : ∀ x ∈ names21, PySem.W.kitOne K (.ref cNS) (.ref (He.ga K x)) = some (x == "NoSuch")) (vB : PySem.W.kitOne K (.ref cBN) (.type "ValueError") = some true) (vN : PySem.W.kitOne K (.ref cNS) (.type "ValueError") = some true) (F : FunD K "_law_only" "_law_only" (defArgs s__law_only) (defBody s__law_only) (defScope s__law_only) [] [] f fd) (g_Held : mg "Held" = some (.ref (He.ga K "Held"))) (g_NoSuch : mg "NoSuch" = some (.ref (He.ga K "NoSuch"))) (g_NoSeat : mg "NoSeat" = some (.ref (He.ga K "NoSeat"))) (g_NotGrowing : mg "NotGrowing" = some (.ref (He.ga K "NotGrowing"))) (g_NeedsPoint : mg "NeedsPoint" = some (.ref (He.ga K "NeedsPoint"))) (g_TooWide : mg "TooWide" = some (.ref (He.ga K "TooWide"))) (g_TooFar : mg "TooFar" = some (.ref (He.ga K "TooFar"))) (g_TooMany : mg "TooMany" = some (.ref (He.ga K "TooMany"))) (g_BadRow : mg "BadRow" = some (.ref (He.ga K "BadRow"))) (g_BadNumber : mg "BadNumber" = some (.ref (He.ga K "BadNumber"))) (g_Ring : mg "Ring" = some (.ref (He.ga K "Ring"))) (g_Clash : mg "Clash" = some (.ref (He.ga K "Clash"))) (g_BadFact : mg "BadFact" = some (.ref (He.ga K "BadFact"))) (g_NoPower : mg "NoPower" = some (.ref (He.ga K "NoPower"))) (g_BadWork : mg "BadWork" = some (.ref (He.ga K "BadWork"))) (g_EmptyRoom : mg "EmptyRoom" = some (.ref (He.ga K "EmptyRoom"))) (g_BadPoint : mg "BadPoint" = some (.ref (He.ga K "BadPoint"))) (g_BadLaw : mg "BadLaw" = some (.ref (He.ga K "BadLaw"))) (g_BadCost : mg "BadCost" = some (.ref (He.ga K "BadCost"))) (g_BadName : mg "BadName" = some (.ref (He.ga K "BadName"))) (g_BadText : mg "BadText" = some (.ref (He.ga K "BadText"))) (m_isinstance : mg "isinstance" = none) (m_ValueError : mg "ValueError" = none) :
    FnE P w K mg base 1 f fd ["e", "spot"] (liftE K (okOnly K cBN cNS) (sp__law_only cBN cNS)) := by
  refine fn_okE F sc__law_only (fun a C ds q x h => ?_) (fun cdv A out st H p B C od hC hz hf hr => ?_)
  rotate_left
  obtain ⟨D, rfl, rfl, CC, hD⟩ := hC
  have hp : (p.1, p.2) ∈ [p] := List.mem_cons_self
  refine ⟨_, _, DSs.d0 (dss_cons (ds_set (i := 2) sc__law_only.nd rfl (by first | exact Or.inl rfl | exact Or.inr rfl) (de_lst (da_cons (de_isX hp CC hz hf (de_var 0) (pe_glob (v := V.ref (He.ga K "BadText")) (by rfl) g_BadText rfl) (by exact fun _ h => h) m_isinstance) (da_cons (de_isX hp CC hz hf (de_var 0) (pe_glob (v := V.ref (He.ga K "BadName")) (by rfl) g_BadName rfl) (by exact fun _ h => h) m_isinstance) (da_cons (de_isX hp CC hz hf (de_var 0) (pe_glob (v := V.ref (He.ga K "BadCost")) (by rfl) g_BadCost rfl) (by exact fun _ h => h) m_isinstance) (da_cons (de_isX hp CC hz hf (de_var 0) (pe_glob (v := V.ref (He.ga K "BadLaw")) (by rfl) g_BadLaw rfl) (by exact fun _ h => h) m_isinstance) da_nil))))))
      (dss_hide (dss_cons (ds_set (i := 2) sc__law_only.nd rfl (by first | exact Or.inl rfl | exact Or.inr rfl) (de_add (de_var 2) (de_lst (da_cons (de_isX hp CC hz hf (de_var 0) (pe_glob (v := V.ref (He.ga K "BadPoint")) (by rfl) g_BadPoint rfl) (by exact fun _ h => h) m_isinstance) (da_cons (de_isX hp CC hz hf (de_var 0) (pe_glob (v := V.ref (He.ga K "EmptyRoom")) (by rfl) g_EmptyRoom rfl) (by exact fun _ h => h) m_isinstance) (da_cons (de_isX hp CC hz hf (de_var 0) (pe_glob (v := V.ref (He.ga K "BadWork")) (by rfl) g_BadWork rfl) (by exact fun _ h => h) m_isinstance) (da_cons (de_isX hp CC hz hf (de_var 0) (pe_glob (v := V.ref (He.ga K "NoPower")) (by rfl) g_NoPower rfl) (by exact fun _ h => h) m_isinstance) da_nil)))))))
      (dss_hide (dss_cons (ds_set (i := 2) sc__law_only.nd rfl (by first | exact Or.inl rfl | exact Or.inr rfl) (de_add (de_var 2) (de_lst (da_cons (de_isX hp CC hz hf (de_var 0) (pe_glob (v := V.ref (He.ga K "BadFact")) (by rfl) g_BadFact rfl) (by exact fun _ h => h) m_isinstance) (da_cons (de_isX hp CC hz hf (de_var 0) (pe_glob (v := V.ref (He.ga K "Clash")) (by rfl) g_Clash rfl) (by exact fun _ h => h) m_isinstance) (da_cons (de_isX hp CC hz hf (de_var 0) (pe_glob (v := V.ref (He.ga K "Ring")) (by rfl) g_Ring rfl) (by exact fun _ h => h) m_isinstance) (da_cons (de_isX hp CC hz hf (de_var 0) (pe_glob (v := V.ref (He.ga K "BadNumber")) (by rfl) g_BadNumber rfl) (by exact fun _ h => h) m_isinstance) da_nil)))))))
      (dss_hide (dss_cons (ds_set (i := 2) sc__law_only.nd rfl (by first | exact Or.inl rfl | exact Or.inr rfl) (de_add (de_var 2) (de_lst (da_cons (de_isX hp CC hz hf (de_var 0) (pe_glob (v := V.ref (He.ga K "BadRow")) (by rfl) g_BadRow rfl) (by exact fun _ h => h) m_isinstance) (da_cons (de_isX hp CC hz hf (de_var 0) (pe_glob (v := V.ref (He.ga K "TooMany")) (by rfl) g_TooMany rfl) (by exact fun _ h => h) m_isinstance) (da_cons (de_isX hp CC hz hf (de_var 0) (pe_glob (v := V.ref (He.ga K "TooFar")) (by rfl) g_TooFar rfl) (by exact fun _ h => h) m_isinstance) (da_cons (de_isX hp CC hz hf (de_var 0) (pe_glob (v := V.ref (He.ga K "TooWide")) (by rfl) g_TooWide rfl) (by exact fun _ h => h) m_isinstance) da_nil)))))))
      (dss_hide (dss_cons (ds_set (i := 2) sc__law_only.nd rfl (by first | exact Or.inl rfl | exact Or.inr rfl) (de_add (de_var 2) (de_lst (da_cons (de_isX hp CC hz hf (de_var 0) (pe_glob (v := V.ref (He.ga K "NeedsPoint")) (by rfl) g_NeedsPoint rfl) (by exact fun _ h => h) m_isinstance) (da_cons (de_isX hp CC hz hf (de_var 0) (pe_glob (v := V.ref (He.ga K "NotGrowing")) (by rfl) g_NotGrowing rfl) (by exact fun _ h => h) m_isinstance) (da_cons (de_isX hp CC hz hf (de_var 0) (pe_glob (v := V.ref (He.ga K "NoSeat")) (by rfl) g_NoSeat rfl) (by exact fun _ h => h) m_isinstance) (da_cons (de_isX hp CC hz hf (de_var 0) (pe_glob (v := V.ref (He.ga K "NoSuch")) (by rfl) g_NoSuch rfl) (by exact fun _ h => h) m_isinstance) da_nil)))))))
      (dss_hide (dss_cons (ds_set (i := 2) sc__law_only.nd rfl (by first | exact Or.inl rfl | exact Or.inr rfl) (de_add (de_var 2) (de_lst (da_cons (de_isX hp CC hz hf (de_var 0) (pe_glob (v := V.ref (He.ga K "Held")) (by rfl) g_Held rfl) (by exact fun _ h => h) m_isinstance) da_nil))))
      (dss_hide (dss_one (ds_ret (de_and (de_eq hr.units (de_m_count (de_var 2) de_bl) de_int) (de_and (de_ix (de_var 2) (de_var 1)) (de_one (de_isX hp CC hz hf (de_var 0) (pe_bltn (v := .ty "ValueError") rfl m_ValueError (by decide +kernel) rfl) (by exact fun _ h => h) m_isinstance)))))))))))))))))), fun ds q x h => ?_⟩
  rotate_left
  · exact (by obtain ⟨n, rfl, _⟩ := h; rfl)
  · obtain ⟨n, rfl, hC, h⟩ := h
    have line : 30 ≤ sizeLine := by rw [sizeLine_eq]; decide
    rcases hC with ⟨hC, rfl⟩ | ⟨hC, rfl⟩
    · have eD : D = cBN := Value.ref.inj hC
      subst eD
      have t0 : PySem.W.kitOne K (.ref D) (.ref (He.ga K "BadText")) = some false := kB "BadText" (by decide)
      have t1 : PySem.W.kitOne K (.ref D) (.ref (He.ga K "BadName")) = some false := kB "BadName" (by decide)
      have t2 : PySem.W.kitOne K (.ref D) (.ref (He.ga K "BadCost")) = some false := kB "BadCost" (by decide)
      have t3 : PySem.W.kitOne K (.ref D) (.ref (He.ga K "BadLaw")) = some false := kB "BadLaw" (by decide)
      have t4 : PySem.W.kitOne K (.ref D) (.ref (He.ga K "BadPoint")) = some false := kB "BadPoint" (by decide)
      have t5 : PySem.W.kitOne K (.ref D) (.ref (He.ga K "EmptyRoom")) = some false := kB "EmptyRoom" (by decide)
      have t6 : PySem.W.kitOne K (.ref D) (.ref (He.ga K "BadWork")) = some false := kB "BadWork" (by decide)
      have t7 : PySem.W.kitOne K (.ref D) (.ref (He.ga K "NoPower")) = some false := kB "NoPower" (by decide)
      have t8 : PySem.W.kitOne K (.ref D) (.ref (He.ga K "BadFact")) = some false := kB "BadFact" (by decide)
      have t9 : PySem.W.kitOne K (.ref D) (.ref (He.ga K "Clash")) = some false := kB "Clash" (by decide)
      have t10 : PySem.W.kitOne K (.ref D) (.ref (He.ga K "Ring")) = some false := kB "Ring" (by decide)
      have t11 : PySem.W.kitOne K (.ref D) (.ref (He.ga K "BadNumber")) = some true := kB "BadNumber" (by decide)
      have t12 : PySem.W.kitOne K (.ref D) (.ref (He.ga K "BadRow")) = some false := kB "BadRow" (by decide)
      have t13 : PySem.W.kitOne K (.ref D) (.ref (He.ga K "TooMany")) = some false := kB "TooMany" (by decide)
      have t14 : PySem.W.kitOne K (.ref D) (.ref (He.ga K "TooFar")) = some false := kB "TooFar" (by decide)
      have t15 : PySem.W.kitOne K (.ref D) (.ref (He.ga K "TooWide")) = some false := kB "TooWide" (by decide)
      have t16 : PySem.W.kitOne K (.ref D) (.ref (He.ga K "NeedsPoint")) = some false := kB "NeedsPoint" (by decide)
      have t17 : PySem.W.kitOne K (.ref D) (.ref (He.ga K "NotGrowing")) = some false := kB "NotGrowing" (by decide)
      have t18 : PySem.W.kitOne K (.ref D) (.ref (He.ga K "NoSeat")) = some false := kB "NoSeat" (by decide)
      have t19 : PySem.W.kitOne K (.ref D) (.ref (He.ga K "NoSuch")) = some false := kB "NoSuch" (by decide)
      have t20 : PySem.W.kitOne K (.ref D) (.ref (He.ga K "Held")) = some false := kB "Held" (by decide)
      show rSeq _ _ (kq q) _
      generalize hT : hide _ = T
      walk_at "d"
      refine ⟨rfl, _, t0, rfl, _, t1, rfl, _, t2, rfl, _, t3, by omega, ?_⟩
      rw [← hT]
      clear hT T
      show rSeq _ _ (kq q) _
      generalize hT : hide _ = T
      walk_at "d"
      refine ⟨rfl, _, t4, rfl, _, t5, rfl, _, t6, rfl, _, t7, by omega, (by first | omega | (simp only [List.length_append, List.length_cons, List.length_nil]; omega)), ?_⟩
      rw [← hT]
      clear hT T
      show rSeq _ _ (kq q) _
      generalize hT : hide _ = T
      walk_at "d"
      refine ⟨rfl, _, t8, rfl, _, t9, rfl, _, t10, rfl, _, t11, by omega, (by first | omega | (simp only [List.length_append, List.length_cons, List.length_nil]; omega)), ?_⟩
      rw [← hT]
      clear hT T
      show rSeq _ _ (kq q) _
      generalize hT : hide _ = T
      walk_at "d"
      refine ⟨rfl, _, t12, rfl, _, t13, rfl, _, t14, rfl, _, t15, by omega, (by first | omega | (simp only [List.length_append, List.length_cons, List.length_nil]; omega)), ?_⟩
      rw [← hT]
      clear hT T
      show rSeq _ _ (kq q) _
      generalize hT : hide _ = T
      walk_at "d"
      refine ⟨rfl, _, t16, rfl, _, t17, rfl, _, t18, rfl, _, t19, by omega, (by first | omega | (simp only [List.length_append, List.length_cons, List.length_nil]; omega)), ?_⟩
      rw [← hT]
      clear hT T
      show rSeq _ _ (kq q) _
      generalize hT : hide _ = T
      walk_at "d"
      refine ⟨rfl, _, t20, by omega, (by first | omega | (simp only [List.length_append, List.length_cons, List.length_nil]; omega)), ?_⟩
      rw [← hT]
      clear hT T
      show rRet _ (kq q) _
      walk_at "d"
      refine ⟨⟨_, rfl⟩, ?_⟩
      dsimp only [List.cons_append, List.nil_append]
      refine ⟨_, rfl, trivial, trivial, ?_⟩
      exact ⟨_, rfl, rfl, _, vB, h⟩
    · have eD : D = cNS := Value.ref.inj hC
      subst eD
      have t0 : PySem.W.kitOne K (.ref D) (.ref (He.ga K "BadText")) = some false := kN "BadText" (by decide)
      have t1 : PySem.W.kitOne K (.ref D) (.ref (He.ga K "BadName")) = some false := kN "BadName" (by decide)
      have t2 : PySem.W.kitOne K (.ref D) (.ref (He.ga K "BadCost")) = some false := kN "BadCost" (by decide)
      have t3 : PySem.W.kitOne K (.ref D) (.ref (He.ga K "BadLaw")) = some false := kN "BadLaw" (by decide)
      have t4 : PySem.W.kitOne K (.ref D) (.ref (He.ga K "BadPoint")) = some false := kN "BadPoint" (by decide)
      have t5 : PySem.W.kitOne K (.ref D) (.ref (He.ga K "EmptyRoom")) = some false := kN "EmptyRoom" (by decide)
      have t6 : PySem.W.kitOne K (.ref D) (.ref (He.ga K "BadWork")) = some false := kN "BadWork" (by decide)
      have t7 : PySem.W.kitOne K (.ref D) (.ref (He.ga K "NoPower")) = some false := kN "NoPower" (by decide)
      have t8 : PySem.W.kitOne K (.ref D) (.ref (He.ga K "BadFact")) = some false := kN "BadFact" (by decide)
      have t9 : PySem.W.kitOne K (.ref D) (.ref (He.ga K "Clash")) = some false := kN "Clash" (by decide)
      have t10 : PySem.W.kitOne K (.ref D) (.ref (He.ga K "Ring")) = some false := kN "Ring" (by decide)
      have t11 : PySem.W.kitOne K (.ref D) (.ref (He.ga K "BadNumber")) = some false := kN "BadNumber" (by decide)
      have t12 : PySem.W.kitOne K (.ref D) (.ref (He.ga K "BadRow")) = some false := kN "BadRow" (by decide)
      have t13 : PySem.W.kitOne K (.ref D) (.ref (He.ga K "TooMany")) = some false := kN "TooMany" (by decide)
      have t14 : PySem.W.kitOne K (.ref D) (.ref (He.ga K "TooFar")) = some false := kN "TooFar" (by decide)
      have t15 : PySem.W.kitOne K (.ref D) (.ref (He.ga K "TooWide")) = some false := kN "TooWide" (by decide)
      have t16 : PySem.W.kitOne K (.ref D) (.ref (He.ga K "NeedsPoint")) = some false := kN "NeedsPoint" (by decide)
      have t17 : PySem.W.kitOne K (.ref D) (.ref (He.ga K "NotGrowing")) = some false := kN "NotGrowing" (by decide)
      have t18 : PySem.W.kitOne K (.ref D) (.ref (He.ga K "NoSeat")) = some false := kN "NoSeat" (by decide)
      have t19 : PySem.W.kitOne K (.ref D) (.ref (He.ga K "NoSuch")) = some true := kN "NoSuch" (by decide)
      have t20 : PySem.W.kitOne K (.ref D) (.ref (He.ga K "Held")) = some false := kN "Held" (by decide)
      show rSeq _ _ (kq q) _
      generalize hT : hide _ = T
      walk_at "d"
      refine ⟨rfl, _, t0, rfl, _, t1, rfl, _, t2, rfl, _, t3, by omega, ?_⟩
      rw [← hT]
      clear hT T
      show rSeq _ _ (kq q) _
      generalize hT : hide _ = T
      walk_at "d"
      refine ⟨rfl, _, t4, rfl, _, t5, rfl, _, t6, rfl, _, t7, by omega, (by first | omega | (simp only [List.length_append, List.length_cons, List.length_nil]; omega)), ?_⟩
      rw [← hT]
      clear hT T
      show rSeq _ _ (kq q) _
      generalize hT : hide _ = T
      walk_at "d"
      refine ⟨rfl, _, t8, rfl, _, t9, rfl, _, t10, rfl, _, t11, by omega, (by first | omega | (simp only [List.length_append, List.length_cons, List.length_nil]; omega)), ?_⟩
      rw [← hT]
      clear hT T
      show rSeq _ _ (kq q) _
      generalize hT : hide _ = T
      walk_at "d"
      refine ⟨rfl, _, t12, rfl, _, t13, rfl, _, t14, rfl, _, t15, by omega, (by first | omega | (simp only [List.length_append, List.length_cons, List.length_nil]; omega)), ?_⟩
      rw [← hT]
      clear hT T
      show rSeq _ _ (kq q) _
      generalize hT : hide _ = T
      walk_at "d"
      refine ⟨rfl, _, t16, rfl, _, t17, rfl, _, t18, rfl, _, t19, by omega, (by first | omega | (simp only [List.length_append, List.length_cons, List.length_nil]; omega)), ?_⟩
      rw [← hT]
      clear hT T
      show rSeq _ _ (kq q) _
      generalize hT : hide _ = T
      walk_at "d"
      refine ⟨rfl, _, t20, by omega, (by first | omega | (simp only [List.length_append, List.length_cons, List.length_nil]; omega)), ?_⟩
      rw [← hT]
      clear hT T
      show rRet _ (kq q) _
      walk_at "d"
      refine ⟨⟨_, rfl⟩, ?_⟩
      dsimp only [List.cons_append, List.nil_append]
      refine ⟨_, rfl, trivial, trivial, ?_⟩
      exact ⟨_, rfl, rfl, _, vN, h⟩

theorem sc__law_least : FnScope ["world", "share", "number", "quotient", "one", "high", "low"] ["world", "share", "number"] (defScope s__law_least) := ⟨rfl, rfl, rfl, by decide +kernel, rfl, by decide +kernel, by decide +kernel⟩
theorem ok__law_least {f : Addr} {fd : FuncData} (F : FunD K "_law_least" "_law_least" (defArgs s__law_least) (defBody s__law_least) (defScope s__law_least) [] [] f fd) (c__law_pow : Cal P w K mg base 1 "_law_pow" sp__law_pow [] []) (c__law_div : Cal P w K mg base 3 "_law_div" sp__law_div [] []) (m_isinstance : mg "isinstance" = none) (m_bool : mg "bool" = none) (m_int : mg "int" = none) :
    FnOk P w K mg base (L2N.CX P w) 4 f fd ["world", "share", "number"] (lift K sp__law_least) := by
  refine fn_okD F sc__law_least (fun ds q x h => ?_) (fun cdv A outer s H E B hr => ⟨_, _, (dss_cons (ds_if (DW.dt (dw_or (dt_not (dt_val (de_isi .int (de_var 2) m_isinstance m_int (by decide +kernel)))) (dw_or (dt_val (de_isi .bl (de_var 2) m_isinstance m_bool (by decide +kernel))) (dw_or1 (dt_lt (de_var 2) de_int))))) (dss_one (ds_ret de_bl)) dss_nil)
      (dss_hide (dss_cons (ds_set (i := 3) sc__law_least.nd rfl (by first | exact Or.inl rfl | exact Or.inr rfl) (de_call (c__law_div.mono (by decide)) hr (da_cons (de_ix (de_var 0) de_int) (da_cons (de_var 1) da_nil))))
      (dss_cons (ds_set (i := 4) sc__law_least.nd rfl (by first | exact Or.inl rfl | exact Or.inr rfl) (de_ix (de_ix (de_var 0) de_int) de_int))
      (dss_hide (dss_cons (ds_if (dt_gt (de_mul (de_sub (de_m_bit_length (de_var 2)) de_int) (de_var 4)) de_int) (dss_one (ds_ret de_bl)) dss_nil)
      (dss_hide (dss_cons (ds_set (i := 5) sc__law_least.nd rfl (by first | exact Or.inl rfl | exact Or.inr rfl) (de_call (c__law_pow.mono (by decide)) hr (da_cons (de_ix (de_var 3) de_int) (da_cons (de_ix (de_ix (de_var 0) de_int) de_int) da_nil))))
      (dss_cons (ds_set (i := 6) sc__law_least.nd rfl (by first | exact Or.inl rfl | exact Or.inr rfl) (de_call (c__law_pow.mono (by decide)) hr (da_cons (de_ix (de_var 3) de_int) (da_cons (de_ix (de_ix (de_var 0) de_int) de_int) da_nil))))
      (dss_hide (dss_cons (ds_if (dt_lt (de_mul (de_call (c__law_pow.mono (by decide)) hr (da_cons (de_var 2) (da_cons (de_var 4) da_nil))) (de_var 6)) (de_var 5)) (dss_one (ds_ret de_bl)) dss_nil)
      (dss_one (ds_ret (de_or (de_eq hr.units (de_var 2) de_int) (de_one (de_lt (de_mul (de_call (c__law_pow.mono (by decide)) hr (da_cons (de_sub (de_var 2) de_int) (da_cons (de_var 4) da_nil))) (de_var 6)) (de_var 5))))))))))))))))), fun ds q x h => ?_⟩)
  · obtain ⟨k0, k1, s0, s1, e0, e1, n, z, y, rfl, h⟩ := h
    rfl
  · obtain ⟨k0, k1, s0, s1, e0, e1, n, z, y, rfl, ok, hl, h⟩ := h
    walk_at "d"
    have hn1 : 1 ≤ n := hl.1
    refine ⟨_, rfl, (fun z => by cases z), fun _ => ⟨_, rfl, (fun z => by cases z), fun _ => ⟨fun z => by have := of_decide_eq_true z; omega, fun _ => ?_⟩⟩⟩
    have hp1 : 1 ≤ ra (k0 * e1) (k1 * e0) := ra_pos (Nat.mul_pos ok.a1 ok.a4)
    have hp2 : 1 ≤ rb (k0 * e1) (k1 * e0) := rb_pos (Nat.mul_pos ok.a2 ok.a3)
    obtain ⟨A, hA1, hA2, hA3⟩ := ok.A
    show rSeq _ _ (kq q) _
    generalize hT : hide (rSeq (rIf _ _ _) (hide _)) = T
    walk_at "r"
    refine ⟨k0, k1, e0, e1, rfl, ok.a1, ok.a2, ok.a3, ok.a4, ok.b1, ok.b2, ok.b3, ok.b4, ?_⟩
    walk_at "r"
    rw [← hT]
    clear hT T
    unfold FwLeast at hl
    generalize ra (k0 * e1) (k1 * e0) = a at *
    generalize rb (k0 * e1) (k1 * e0) = b at *
    have hbit : n.log2 * s0 ≤ 11500 := bit_bound hl hp2 hA1 (by omega) ok.d2
    have hnl : n < 2 ^ (n.log2 + 1) := Nat.lt_log2_self
    have hnl2 : (n.log2 + 1) * s0 ≤ 12500 := by
      have := ok.d2
      rw [Nat.add_mul]
      omega
    have hbl : Builtin.Int.intBits (n : Int) = n.log2 + 1 := by
      unfold Builtin.Int.intBits
      rw [if_neg (by simp; omega)]
      rfl
    show rSeq _ _ (kq q) _
    generalize hT : hide (rSeq (rSet 5 _) _) = T
    have hs : (∃ u, u = s0) := ⟨_, rfl⟩
    walk_at "r"
    rw [hbl]
    have eb : ((n.log2 + 1 : Nat) : Int) - 1 = ((n.log2 : Nat) : Int) := by omega
    rw [eb]
    have ds0 := ok.d2
    have hlog : n.log2 < 2 ^ 14 := by
      have := ok.d1
      have : n.log2 * 1 ≤ n.log2 * s0 := Nat.mul_le_mul_left _ this
      omega
    refine ⟨mulOk (k := 14) (l := 10) hlog (by omega) (by decide) (by decide) (by decide), fun hc => ?_, fun _ => ?_⟩
    · have : (n.log2 : Int) * (s0 : Int) = ((n.log2 * s0 : Nat) : Int) := by rw [Int.natCast_mul]
      omega
    rw [← hT]
    clear hT T
    show rSeq _ _ (kq q) _
    generalize hT : hide (rSeq (rIf _ _ _) _) = T
    walk_at "r"
    refine ⟨a, s1, A, rfl, hp1, hA1, by omega, ?_⟩
    walk_at "r"
    refine ⟨b, s1, A, rfl, hp2, hA2, by omega, ?_⟩
    walk_at "r"
    rw [← hT]
    clear hT T
    have ha2 : a ^ s1 < 2 ^ 10501 := Nat.lt_of_lt_of_le (pow_lt2 hA1) (Nat.pow_le_pow_right (by decide) (by omega))
    have hb2 : b ^ s1 < 2 ^ 10501 := Nat.lt_of_lt_of_le (pow_lt2 hA2) (Nat.pow_le_pow_right (by decide) (by omega))
    have hb1 : 0 < b ^ s1 := Nat.pow_pos hp2
    show rSeq _ _ (kq q) _
    walk_at "r"
    obtain ⟨g1, g2, g3⟩ := hl
    generalize a ^ s1 = ap at *
    generalize b ^ s1 = bp at *
    have hpn : ∀ m : Nat, m ≤ n → m ^ s0 < 2 ^ 12501 := fun m hm => Nat.lt_of_lt_of_le (pow_lt2 (Nat.lt_of_le_of_lt hm hnl)) (Nat.pow_le_pow_right (by decide) (by omega))
    refine ⟨n, s0, n.log2 + 1, rfl, g1, hnl, by omega, ?_⟩
    walk_at "r"
    refine ⟨mulOk (hpn n (Nat.le_refl n)) hb2 (by decide) (by decide) (by decide), fun hc => ?_, fun _ => ?_⟩
    · rw [← Int.natCast_mul] at hc
      omega
    · by_cases hn : n = 1
      · rw [show decide ((n : Int) = 1) = true from decide_eq_true (by omega)]
        exact h
      · rw [show decide ((n : Int) = 1) = false from decide_eq_false (by omega)]
        refine ⟨n - 1, s0, n.log2 + 1, by rw [show (n : Int) - 1 = ((n - 1 : Nat) : Int) by omega], by omega, by omega, by omega, ?_⟩
        walk_at "r"
        have g4 := g3.resolve_left hn
        refine ⟨mulOk (hpn (n - 1) (by omega)) hb2 (by decide) (by decide) (by decide), ?_⟩
        rw [← Int.natCast_mul, decide_eq_true (by omega)]
        exact h

end
end Cl

set_option maxHeartbeats 2000000
set_option exponentiation.threshold 200000
namespace Cl
open PySem PySem.Spec L2 DL M
local macro_rules | `(tactic| walk_at "d") => `(tactic| dsimp only [rSeq, rSet, rUn, rVar, rMov, rC, rBin, rBinP', rBinP, rCall, rCons, rNil, rTup, rLst, rIf, rRet, rRetN, rVal, rTru, rNot, rAnd, rOr, rAndV, rOrV, gNot, rIfE, rNext, rBreak, rCont, rDrop, rPar, rFor, gt, st, frz, gAdd, DL.gSub, gMul, gFdiv, gMod, gPow, gShr, gShl, gAnd, gNeg, gLt, gLe, gGt, gGe, gEq, gNe, okW, eqW, gAbs, gInt, gLen, wipeE, sgName, sgTup, sgCons, sgNil, rAsg, startE, List.length, rPk, gIsB, gNotB, isN, rIsN, rNotN, rMax2, rMin2, rNever, gBits, List.append_nil, rSto, rStoSet, rStoIf, rApp, rPop0, isOwn, rSl, rSlP, rNoPart, rPart, gCut, itL, gFld, rRaise, rMk0, rMakeK, rCnt, gCnt, gIx, gIsi, tyW, rIsX])
local macro_rules | `(tactic| walk_at "r") => `(tactic| (try walk_at "d"; try simp only [at0, at1, at2, at3, Option.some.injEq, exists_eq_left', true_and, and_true, Bool.not_eq_true', Bool.not_eq_false', decide_eq_true_eq, decide_eq_false_iff_not, List.append_nil, List.cons_append, List.nil_append]; try walk_at "d"; try simp only [at0, at1, at2, at3, Option.some.injEq, exists_eq_left', true_and, and_true, Bool.not_eq_true', Bool.not_eq_false', decide_eq_true_eq, decide_eq_false_iff_not]))

section
variable {P : Program} {w : World} {K : PySem.W.Frag} {mg : Str → Option Value} {base : Heap}
theorem sc__law_like : FnScope ["told_one", "due", "left", "pair", "one", "two", "spot"] ["told_one", "due"] (defScope s__law_like) := ⟨rfl, rfl, rfl, by decide +kernel, rfl, by decide +kernel, by decide +kernel⟩
theorem ok__law_like {f : Addr} {fd : FuncData} (F : FunD K "_law_like" "_law_like" (defArgs s__law_like) (defBody s__law_like) (defScope s__law_like) [] [] f fd) (m_len : mg "len" = none) (m_isinstance : mg "isinstance" = none) (m_list : mg "list" = none) (m_tuple : mg "tuple" = none) (m_range : mg "range" = none) (m_int : mg "int" = none) (m_bool : mg "bool" = none) (m_str : mg "str" = none) :
    FnOk P w K mg base (L2N.CX P w) 1 f fd ["told_one", "due"] (lift K sp__law_like) := by
  refine fn_okD F sc__law_like (fun ds q x h => ?_) (fun cdv A outer s H E B hr => ⟨_, _, (dss_cons (ds_set (i := 2) sc__law_like.nd rfl (by first | exact Or.inl rfl | exact Or.inr rfl) (de_lst (da_cons (de_tup (da_cons (de_var 0) (da_cons (de_var 1) da_nil))) da_nil)))
      (dss_cons (ds_while PassesOwn.never (dt_gt (de_lenP 2 (pv 2) m_len) de_int) (dss_cons (ds_set (i := 3) sc__law_like.nd rfl (by first | exact Or.inl rfl | exact Or.inr rfl) (de_pop 2 (pv 2)))
      (dss_cons (ds_set (i := 4) sc__law_like.nd rfl (by first | exact Or.inl rfl | exact Or.inr rfl) (de_ix (de_var 3) de_int))
      (dss_cons (ds_set (i := 5) sc__law_like.nd rfl (by first | exact Or.inl rfl | exact Or.inr rfl) (de_ix (de_var 3) de_int))
      (dss_hide (dss_one (ds_if (DW.dt (dw_or (dt_val (de_isi .tup (de_var 5) m_isinstance m_tuple (by decide +kernel))) (dw_or1 (dt_val (de_isi .lst (de_var 5) m_isinstance m_list (by decide +kernel)))))) (dss_hide (dss_cons (ds_if (DW.dt (dw_or (dt_ne hr.units (de_isi .tup (de_var 4) m_isinstance m_tuple (by decide +kernel)) (de_isi .tup (de_var 5) m_isinstance m_tuple (by decide +kernel))) (dw_or1 (dt_ne hr.units (de_isi .lst (de_var 4) m_isinstance m_list (by decide +kernel)) (de_isi .lst (de_var 5) m_isinstance m_list (by decide +kernel)))))) (dss_one (ds_ret de_bl)) dss_nil)
      (dss_hide (dss_cons (ds_if (dt_ne hr.units (de_len (de_var 4) m_len) (de_len (de_var 5) m_len)) (dss_one (ds_ret de_bl)) dss_nil)
      (dss_hide (dss_one (ds_for PassesOwn.never rfl (di_rg1 (da_cons (de_len (de_var 5) m_len) da_nil) m_range) (dg_name (i := 6) sc__law_like.nd rfl (by first | exact Or.inl rfl | exact Or.inr rfl)) (dss_one (ds_expr (de_app 2 (pv 2) (de_tup (da_cons (de_ix (de_var 4) (de_var 6)) (da_cons (de_ix (de_var 5) (de_var 6)) da_nil))))))))))))) (dss_hide (dss_one (ds_if (DW.dt (dw_or (dt_ne hr.units (de_isi .bl (de_var 4) m_isinstance m_bool (by decide +kernel)) (de_isi .bl (de_var 5) m_isinstance m_bool (by decide +kernel))) (dw_or1 (dt_ne hr.units (de_isi .int (de_var 4) m_isinstance m_int (by decide +kernel)) (de_isi .int (de_var 5) m_isinstance m_int (by decide +kernel)))))) (dss_one (ds_ret de_bl)) (dss_one (ds_if (DW.dt (dw_or (dt_ne hr.units (de_isi .str (de_var 4) m_isinstance m_str (by decide +kernel)) (de_isi .str (de_var 5) m_isinstance m_str (by decide +kernel))) (dw_or (dt_ne hr.units (de_isN (de_var 4)) (de_isN (de_var 5))) (dw_or1 (dt_ne hr.units (de_var 4) (de_var 5)))))) (dss_one (ds_ret de_bl)) dss_nil))))))))))))
      (dss_one (ds_ret de_bl)))), fun ds q x h => ?_⟩)
  · obtain ⟨ys, rfl, h⟩ := h
    rfl
  · obtain ⟨ys, rfl, hy, hz, h⟩ := h
    have line : 2000 < sizeLine := by rw [sizeLine_eq]; decide
    walk_at "d"
    refine ⟨by omega, by omega, ?_⟩
    refine while_by (α := List D × Option W × Option W × Option W × Option W) (fun a => [some (W.v (D.lst ys)), some (W.v (D.lst ys)), some (W.o (a.1.map fun d => D.tup [d, d])), a.2.1, a.2.2.1, a.2.2.2.1, a.2.2.2.2]) (fun a => likeDs a.1 = true ∧ sizeDs a.1 ≤ 1001) (fun a => sizeDs a.1) ([D.lst ys], none, none, none, none) ⟨by simp [likeDs, likeD, hy], by simp only [sizeDs, sizeD]; omega⟩ ?_
    rintro ⟨l, x3, x4, x5, x6⟩ ⟨i1, i2⟩
    dsimp only at i1 i2
    walk_at "d"
    refine ⟨fun hc => ?_, fun hc => h⟩
    obtain ⟨m, d, rfl⟩ : ∃ m d, l = m ++ [d] := by
      rcases List.eq_nil_or_concat l with rfl | ⟨m, d, rfl⟩
      · cases hc
      · exact ⟨m, d, by simp⟩
    refine ⟨.tup [d, d], by simp, ?_⟩
    walk_at "d"
    refine ⟨d, at0 _ _, d, at1 _ _ _, ?_⟩
    rw [show (List.map (fun d => D.tup [d, d]) (m ++ [d])).dropLast = m.map (fun d => D.tup [d, d]) by simp]
    rw [likeDs_app] at i1
    rw [sizeDs_app] at i2
    rw [sizeDs_app]
    simp only [likeDs, Bool.and_true, Bool.and_eq_true] at i1
    simp only [sizeDs] at i2 ⊢
    obtain ⟨i3, i4⟩ := i1
    generalize hA : hide (rSeq _ _) = AA
    generalize hB : hide (rIf (rOr (rVal (rBin gNe (rUn (gIsi Ty.bl) _) _)) _) _ _) = BB
    show rIf _ _ _ _ _
    walk_at "d"
    have atom : ∀ K : KD, (K.nx [some (W.v (D.lst ys)), some (W.v (D.lst ys)), some (W.o (m.map fun d => D.tup [d, d])), some (W.v (D.tup [d, d])), some (W.v d), some (W.v d), x6]) → (d = .non ∨ (∃ b, d = .bl b) ∨ ∃ n, d = .int n) → BB K [some (W.v (D.lst ys)), some (W.v (D.lst ys)), some (W.o (m.map fun d => D.tup [d, d])), some (W.v (D.tup [d, d])), some (W.v d), some (W.v d), x6] := by
      intro K hK hd
      rw [← hB]
      clear hA hB AA BB
      show rIf _ _ _ _ _
      have nx : rNext K [some (W.v (D.lst ys)), some (W.v (D.lst ys)), some (W.o (m.map fun d => D.tup [d, d])), some (W.v (D.tup [d, d])), some (W.v d), some (W.v d), x6] := hK
      obtain ⟨t, ht⟩ : ∃ t, tyW (.v d) = some t := by
        rcases hd with rfl | ⟨b, rfl⟩ | ⟨n, rfl⟩ <;> exact ⟨_, rfl⟩
      rw [rIf_def, rOr_def]
      refine isi_same (d := d) rfl rfl ht ?_
      refine ⟨(fun z => by cases z), fun _ => ?_⟩
      refine isi_same (d := d) rfl rfl ht ?_
      refine ⟨(fun z => by cases z), fun _ => ?_⟩
      rw [rIf_def, rOr_def]
      refine isi_same (d := d) rfl rfl ht ?_
      refine ⟨(fun z => by cases z), fun _ => ?_⟩
      rw [rOr_def]
      refine isn_same (d := d) rfl rfl ?_
      refine ⟨(fun z => by cases z), fun _ => ?_⟩
      refine var_same (d := d) rfl rfl ?_ ?_ ?_
      rotate_right
      · exact ⟨(fun z => by cases z), fun _ => nx⟩
      · rcases hd with rfl | ⟨b, rfl⟩ | ⟨n, rfl⟩ <;> trivial
      · rcases hd with rfl | ⟨b, rfl⟩ | ⟨n, rfl⟩ <;> first | rfl | exact decide_eq_true rfl
    have seq : ∀ (xs : List D), (d = .tup xs ∨ d = .lst xs) → ∀ K : KD, (∀ x6, K.nx [some (W.v (D.lst ys)), some (W.v (D.lst ys)), some (W.o ((m ++ xs).map fun d => D.tup [d, d])), some (W.v (D.tup [d, d])), some (W.v d), some (W.v d), x6]) → AA K [some (W.v (D.lst ys)), some (W.v (D.lst ys)), some (W.o (m.map fun d => D.tup [d, d])), some (W.v (D.tup [d, d])), some (W.v d), some (W.v d), x6] := by
      intro xs hd K hK
      rw [← hA]
      clear hA hB atom AA BB
      show rSeq _ _ _ _
      obtain ⟨t, ht⟩ : ∃ t, tyW (.v d) = some t := by
        rcases hd with rfl | rfl <;> exact ⟨_, rfl⟩
      have hsz : sizeD d = 1 + sizeDs xs := by rcases hd with rfl | rfl <;> rfl
      have hxl := len_size xs
      have hml := len_size m
      rw [rSeq_def, rIf_def, rOr_def]
      refine isi_same (d := d) rfl rfl ht ?_
      refine ⟨(fun z => by cases z), fun _ => ?_⟩
      refine isi_same (d := d) rfl rfl ht ?_
      refine ⟨(fun z => by cases z), fun _ => ?_⟩
      unfold rNext
      dsimp only
      show rSeq _ _ _ _
      rw [rSeq_def, rIf_def]
      refine len_same (d := d) (n := xs.length) rfl rfl ?_ ?_
      · intro k hk
        rcases hd with rfl | rfl <;> exact hk
      refine ⟨(fun z => by cases z), fun _ => ?_⟩
      have go := like_loop (y0 := D.lst ys) (y1 := D.lst ys) (p := D.tup [d, d]) hd K line xs.length 0 m x6 (by omega) (by omega) (by simpa using hK)
      have er : rgD 0 ((xs.length : Int)).toNat = (List.range' 0 xs.length).map fun j => D.int (0 + (j : Nat)) := by
        unfold rgD
        rw [Int.toNat_natCast, List.range_eq_range']
      rcases hd with rfl | rfl
      · refine ⟨by omega, by omega, ?_⟩
        rw [er]
        exact go
      · refine ⟨by omega, by omega, ?_⟩
        rw [er]
        exact go
    cases d with
    | non =>
      refine ⟨_, rfl, (fun z => by cases z), fun _ => ⟨_, rfl, (fun z => by cases z), fun _ => atom _ ?_ (.inl rfl)⟩⟩
      exact ⟨sizeDs m, by simp [sizeD], (m, _, _, _, _), rfl, ⟨i3, by dsimp only; omega⟩, rfl⟩
    | bl b =>
      refine ⟨_, rfl, (fun z => by cases z), fun _ => ⟨_, rfl, (fun z => by cases z), fun _ => atom _ ?_ (.inr (.inl ⟨b, rfl⟩))⟩⟩
      exact ⟨sizeDs m, by simp [sizeD], (m, _, _, _, _), rfl, ⟨i3, by dsimp only; omega⟩, rfl⟩
    | int n =>
      refine ⟨_, rfl, (fun z => by cases z), fun _ => ⟨_, rfl, (fun z => by cases z), fun _ => atom _ ?_ (.inr (.inr ⟨n, rfl⟩))⟩⟩
      exact ⟨sizeDs m, by simp [sizeD], (m, _, _, _, _), rfl, ⟨i3, by dsimp only; omega⟩, rfl⟩
    | tup xs =>
      refine ⟨_, rfl, fun _ => ⟨fun _ => ?_, (fun z => by cases z)⟩, (fun z => by cases z)⟩
      refine seq xs (.inl rfl) _ ?_
      intro x6
      exact ⟨sizeDs (m ++ xs), by rw [sizeDs_app]; simp only [sizeD]; omega, (m ++ xs, _, _, _, x6), rfl, ⟨by dsimp only; rw [likeDs_app, i3]; simpa [likeD] using i4, by dsimp only; rw [sizeDs_app]; simp only [sizeD] at i2; omega⟩, rfl⟩
    | lst xs =>
      refine ⟨_, rfl, (fun z => by cases z), fun _ => ⟨_, rfl, fun _ => ?_, (fun z => by cases z)⟩⟩
      refine seq xs (.inr rfl) _ ?_
      intro x6
      exact ⟨sizeDs (m ++ xs), by rw [sizeDs_app]; simp only [sizeD]; omega, (m ++ xs, _, _, _, x6), rfl, ⟨by dsimp only; rw [likeDs_app, i3]; simpa [likeD] using i4, by dsimp only; rw [sizeDs_app]; simp only [sizeD] at i2; omega⟩, rfl⟩
    | _ => simp [likeD] at i4

theorem sc__law_made : FnScope ["store", "world", "paper"] ["store", "world"] (defScope s__law_made) := ⟨rfl, rfl, rfl, by decide +kernel, rfl, by decide +kernel, by decide +kernel⟩
theorem ok__law_made {f : Addr} {fd : FuncData} {cBeneath : Addr} (F : FunD K "_law_made" "_law_made" (defArgs s__law_made) (defBody s__law_made) (defScope s__law_made) [] [] f fd) (c__law_chance : Cal P w K mg base 2 "_law_chance" sp__law_chance [] []) (k_Beneath_k_sigma : CalK P w K mg base 1 "Beneath" cBeneath namesB 1 ["k", "sigma"] gD2) (k_Beneath_papers_k_sigma : CalK P w K mg base 1 "Beneath" cBeneath namesB 1 ["papers", "k", "sigma"] gD3) :
    FnOk P w K mg base (L2N.CX P w) 3 f fd ["store", "world"] (lift K (sp__law_made cBeneath)) := by
  refine fn_okD F sc__law_made (fun ds q x h => ?_) (fun cdv A outer s H E B hr => ⟨_, _, (dss_cons (ds_set (i := 2) sc__law_made.nd rfl (by first | exact Or.inl rfl | exact Or.inr rfl) (de_tup (da_cons (de_tup (da_cons (de_tup (da_cons de_int (da_cons de_int da_nil))) da_nil)) (da_cons (de_tup (da_cons (de_tup (da_cons de_int (da_cons de_int da_nil))) da_nil)) (da_cons (de_tup da_nil) (da_cons (de_tup (da_cons (de_ix (de_var 1) de_int) da_nil)) da_nil))))))
      (dss_cons (ds_if (dt_val (de_call (c__law_chance.mono (by decide)) hr (da_cons (de_var 0) (da_cons de_int (da_cons de_int da_nil))))) (dss_one (ds_ret (de_makeK k_Beneath_papers_k_sigma (hr.mono (by decide)) (da_cons de_bl da_nil) (dk_cons (de_tup (da_cons (de_var 2) da_nil)) (dk_cons (de_ix (de_var 1) de_int) (dk_cons (de_ix (de_var 1) de_int) dk_nil)))).choose_spec)) dss_nil)
      (dss_one (ds_ret (de_makeK k_Beneath_k_sigma (hr.mono (by decide)) (da_cons de_bl da_nil) (dk_cons (de_ix (de_var 1) de_int) (dk_cons (de_ix (de_var 1) de_int) dk_nil))).choose_spec)))), fun ds q x h => ?_⟩)
  · obtain ⟨s0, s1, k, y, z, rfl, h⟩ := h
    rfl
  · obtain ⟨s0, s1, k, y, z, rfl, h⟩ := h
    walk_at "r"
    have line : 9 ≤ sizeLine := by rw [sizeLine_eq]; decide
    exact ⟨by omega, by omega, by omega, by omega, by omega, by omega, by omega, 1, 2, rfl, by decide, fun b => ⟨fun _ => ⟨by omega, h _⟩, fun _ => h _⟩⟩

end
end Cl

set_option maxHeartbeats 2000000
set_option exponentiation.threshold 200000
namespace Cl
open PySem PySem.Spec L2 DL M
local macro_rules | `(tactic| walk_at "d") => `(tactic| dsimp only [rSeq, rSet, rUn, rVar, rMov, rC, rBin, rBinP', rBinP, rCall, rCons, rNil, rTup, rLst, rIf, rRet, rRetN, rVal, rTru, rNot, rAnd, rOr, rAndV, rOrV, gNot, rIfE, rNext, rBreak, rCont, rDrop, rPar, rFor, gt, st, frz, gAdd, DL.gSub, gMul, gFdiv, gMod, gPow, gShr, gShl, gAnd, gNeg, gLt, gLe, gGt, gGe, gEq, gNe, okW, eqW, gAbs, gInt, gLen, wipeE, sgName, sgTup, sgCons, sgNil, rAsg, startE, List.length, rPk, gIsB, gNotB, isN, rIsN, rNotN, rMax2, rMin2, rNever, gBits, List.append_nil, rSto, rStoSet, rStoIf, rApp, rPop0, isOwn, rSl, rSlP, rNoPart, rPart, gCut, itL, gFld, rRaise, rMk0, rMakeK, rCnt, gCnt, gIx, gIsi, tyW, rIsX])
local macro_rules | `(tactic| walk_at "r") => `(tactic| (try walk_at "d"; try simp only [at0, at1, at2, at3, Option.some.injEq, exists_eq_left', true_and, and_true, Bool.not_eq_true', Bool.not_eq_false', decide_eq_true_eq, decide_eq_false_iff_not, List.append_nil, List.cons_append, List.nil_append]; try walk_at "d"; try simp only [at0, at1, at2, at3, Option.some.injEq, exists_eq_left', true_and, and_true, Bool.not_eq_true', Bool.not_eq_false', decide_eq_true_eq, decide_eq_false_iff_not]))

section
variable {P : Program} {w : World} {K : PySem.W.Frag} {mg : Str → Option Value} {base : Heap}
theorem sc__law_world : FnScope ["store", "kind", "one", "two", "k_share", "e_share", "sigma_share", "level", "base_number"] ["store"] (defScope s__law_world) := ⟨rfl, rfl, rfl, by decide +kernel, rfl, by decide +kernel, by decide +kernel⟩
theorem ok__law_world {f : Addr} {fd : FuncData} (F : FunD K "_law_world" "_law_world" (defArgs s__law_world) (defBody s__law_world) (defScope s__law_world) [] [] f fd) (c__law_mul : Cal P w K mg base 3 "_law_mul" sp__law_mul [] []) (c__law_pow : Cal P w K mg base 1 "_law_pow" sp__law_pow [] []) (c__law_frac : Cal P w K mg base 2 "_law_frac" sp__law_frac [] []) (c__law_take : Cal P w K mg base 1 "_law_take" sp__law_take [] []) (c__law_fraction : Cal P w K mg base 3 "_law_fraction" sp__law_fraction [] []) (c__law_pick : Cal P w K mg base 2 "_law_pick" sp__law_pick [] []) :
    FnOk P w K mg base (L2N.CX P w) 4 f fd ["store"] (lift K sp__law_world) := by
  refine fn_okD F sc__law_world (fun ds q x h => ?_) (fun cdv A outer s H E B hr => ⟨_, _, (dss_cons (ds_set (i := 1) sc__law_world.nd rfl (by first | exact Or.inl rfl | exact Or.inr rfl) (de_call (c__law_take.mono (by decide)) hr (da_cons (de_var 0) (da_cons de_int da_nil))))
      (dss_cons (ds_set (i := 2) sc__law_world.nd rfl (by first | exact Or.inl rfl | exact Or.inr rfl) (de_add de_int (de_call (c__law_take.mono (by decide)) hr (da_cons (de_var 0) (da_cons de_int da_nil)))))
      (dss_cons (ds_set (i := 3) sc__law_world.nd rfl (by first | exact Or.inl rfl | exact Or.inr rfl) (de_add de_int (de_call (c__law_take.mono (by decide)) hr (da_cons (de_var 0) (da_cons de_int da_nil)))))
      (dss_cons (ds_set (i := 4) sc__law_world.nd rfl (by first | exact Or.inl rfl | exact Or.inr rfl) (de_call (c__law_fraction.mono (by decide)) hr (da_cons (de_var 0) (da_cons de_int da_nil))))
      (dss_hide (dss_cons (ds_set (i := 5) sc__law_world.nd rfl (by first | exact Or.inl rfl | exact Or.inr rfl) (de_call (c__law_frac.mono (by decide)) hr (da_cons de_int (da_cons (de_add de_int (de_call (c__law_take.mono (by decide)) hr (da_cons (de_var 0) (da_cons de_int da_nil)))) da_nil))))
      (dss_hide (dss_cons (ds_if (dt_eq hr.units (de_var 1) de_int) (dss_cons (ds_set (i := 2) sc__law_world.nd rfl (by first | exact Or.inl rfl | exact Or.inr rfl) (de_add de_int (de_call (c__law_take.mono (by decide)) hr (da_cons (de_var 0) (da_cons de_int da_nil)))))
      (dss_cons (ds_set (i := 3) sc__law_world.nd rfl (by first | exact Or.inl rfl | exact Or.inr rfl) (de_add de_int (de_call (c__law_take.mono (by decide)) hr (da_cons (de_var 0) (da_cons de_int da_nil)))))
      (dss_hide (dss_cons (ds_set (i := 4) sc__law_world.nd rfl (by first | exact Or.inl rfl | exact Or.inr rfl) (de_call (c__law_fraction.mono (by decide)) hr (da_cons (de_var 0) (da_cons de_int da_nil))))
      (dss_one (ds_set (i := 5) sc__law_world.nd rfl (by first | exact Or.inl rfl | exact Or.inr rfl) (de_call (c__law_fraction.mono (by decide)) hr (da_cons (de_var 0) (da_cons de_int da_nil))))))))) (dss_one (ds_if (dt_eq hr.units (de_var 1) de_int) (dss_cons (ds_set (i := 2) sc__law_world.nd rfl (by first | exact Or.inl rfl | exact Or.inr rfl) (de_call (c__law_pick.mono (by decide)) hr (da_cons (de_var 0) (da_cons (de_lst (da_cons de_int (da_cons (de_add de_int (de_call (c__law_take.mono (by decide)) hr (da_cons (de_var 0) (da_cons de_int da_nil)))) (da_cons de_int da_nil)))) da_nil))))
      (dss_cons (ds_set (i := 3) sc__law_world.nd rfl (by first | exact Or.inl rfl | exact Or.inr rfl) (de_add de_int (de_call (c__law_take.mono (by decide)) hr (da_cons (de_var 0) (da_cons de_int da_nil)))))
      (dss_hide (dss_cons (ds_set (i := 4) sc__law_world.nd rfl (by first | exact Or.inl rfl | exact Or.inr rfl) (de_call (c__law_pick.mono (by decide)) hr (da_cons (de_var 0) (da_cons (de_lst (da_cons (de_tup (da_cons de_int (da_cons de_int da_nil))) (da_cons (de_call (c__law_fraction.mono (by decide)) hr (da_cons (de_var 0) (da_cons de_int da_nil))) da_nil))) da_nil))))
      (dss_one (ds_set (i := 5) sc__law_world.nd rfl (by first | exact Or.inl rfl | exact Or.inr rfl) (de_call (c__law_pick.mono (by decide)) hr (da_cons (de_var 0) (da_cons (de_lst (da_cons (de_tup (da_cons de_int (da_cons de_int da_nil))) (da_cons (de_call (c__law_fraction.mono (by decide)) hr (da_cons (de_var 0) (da_cons de_int da_nil))) da_nil))) da_nil))))))))) (dss_one (ds_if (dt_eq hr.units (de_var 1) de_int) (dss_cons (ds_set (i := 4) sc__law_world.nd rfl (by first | exact Or.inl rfl | exact Or.inr rfl) (de_call (c__law_fraction.mono (by decide)) hr (da_cons (de_var 0) (da_cons de_int da_nil))))
      (dss_hide (dss_one (ds_set (i := 5) sc__law_world.nd rfl (by first | exact Or.inl rfl | exact Or.inr rfl) (de_call (c__law_fraction.mono (by decide)) hr (da_cons (de_var 0) (da_cons de_int da_nil))))))) dss_nil)))))
      (dss_hide (dss_cons (ds_set (i := 6) sc__law_world.nd rfl (by first | exact Or.inl rfl | exact Or.inr rfl) (de_call (c__law_frac.mono (by decide)) hr (da_cons (de_var 2) (da_cons (de_var 3) da_nil))))
      (dss_cons (ds_set (i := 7) sc__law_world.nd rfl (by first | exact Or.inl rfl | exact Or.inr rfl) de_int)
      (dss_hide (dss_cons (ds_if (dt_gt (de_var 1) de_int) (dss_cons (ds_set (i := 8) sc__law_world.nd rfl (by first | exact Or.inl rfl | exact Or.inr rfl) (de_add de_int (de_call (c__law_take.mono (by decide)) hr (da_cons (de_var 0) (da_cons de_int da_nil)))))
      (dss_hide (dss_cons (ds_set (i := 7) sc__law_world.nd rfl (by first | exact Or.inl rfl | exact Or.inr rfl) (de_call (c__law_pow.mono (by decide)) hr (da_cons (de_var 8) (da_cons (de_ix (de_var 6) de_int) da_nil))))
      (dss_hide (dss_cons (ds_set (i := 5) sc__law_world.nd rfl (by first | exact Or.inl rfl | exact Or.inr rfl) (de_call (c__law_frac.mono (by decide)) hr (da_cons de_int (da_cons (de_add de_int (de_call (c__law_take.mono (by decide)) hr (da_cons (de_var 0) (da_cons de_int da_nil)))) da_nil))))
      (dss_hide (dss_one (ds_set (i := 4) sc__law_world.nd rfl (by first | exact Or.inl rfl | exact Or.inr rfl) (de_call (c__law_mul.mono (by decide)) hr (da_cons (de_tup (da_cons (de_call (c__law_pow.mono (by decide)) hr (da_cons (de_var 8) (da_cons (de_ix (de_var 6) de_int) da_nil))) (da_cons de_int da_nil))) (da_cons (de_var 5) da_nil))))))))))) dss_nil)
      (dss_hide (dss_one (ds_ret (de_lst (da_cons (de_var 4) (da_cons (de_var 6) (da_cons (de_var 5) (da_cons (de_var 7) da_nil))))))))))))))))))))), fun ds q x h => ?_⟩)
  · obtain ⟨rfl, h⟩ := h
    rfl
  · obtain ⟨rfl, h⟩ := h
    walk_at "r"
    refine ⟨9, rfl, by decide, fun kind hk => ?_⟩
    walk_at "d"
    refine ⟨4, rfl, by decide, fun r1 h1 => ?_⟩
    walk_at "d"
    refine ⟨4, rfl, by decide, fun r2 h2 => ?_⟩
    walk_at "d"
    refine ⟨60, rfl, by decide, by decide, fun a b ha ha' hb hb' => ?_⟩
    generalize hT : hide (rSeq (rIf _ _ _) _) = T
    show rSeq _ _ (kq q) _
    walk_at "d"
    refine ⟨1000, rfl, by decide, fun r3 h3 => ?_⟩
    walk_at "d"
    refine ⟨1, 1 + r3, by simp, by decide, by omega, by have := log2_of (n := 1 + r3) (k := 10) (by omega) (by decide); omega, ?_⟩
    rw [← hT]
    clear hT T
    generalize hU : hide (rSeq (rSet 6 _) _) = U
    have tail : ∀ (o t k0 k1 e0 e1 : Nat), 1 ≤ o → o ≤ 999 → 1 ≤ t → t ≤ 999 → 0 < k0 ∧ k0 ≤ 999999999999 → 0 < k1 ∧ k1 ≤ 999999999999 → 0 < e0 ∧ e0 ≤ 999999999999 → 0 < e1 ∧ e1 ≤ 999999999999 → (∃ A, k0 * e1 < 2 ^ A ∧ k1 * (e0 + 1) < 2 ^ A ∧ A * rb o t ≤ 10000) → (5 < kind → o ≤ 4 ∧ t ≤ 4) →
        U (kq q) [some (W.v D.sto), some (W.v (D.int kind)), some (W.v (D.int o)), some (W.v (D.int t)), some (W.v (Fr k0 k1)), some (W.v (Fr e0 e1)), none, none, none] := by
      intro o t k0 k1 e0 e1 ho ho' ht ht' b1 b2 b3 b4 hA hk5
      rw [← hU]
      clear hU U
      show rSeq _ _ (kq q) _
      walk_at "d"
      refine ⟨o, t, rfl, ho, ht, by have := log2_of (n := t) (k := 10) (by omega) (by decide); omega, ?_⟩
      show rSeq _ _ (kq q) _
      generalize hV : hide (rRet _) = V
      walk_at "d"
      refine ⟨fun hc => ?_, fun hc => ?_⟩
      · have hk6 : 5 < kind := by have := of_decide_eq_true hc; omega
        obtain ⟨ho4, ht4⟩ := hk5 hk6
        refine ⟨20, rfl, by decide, fun r4 h4 => ?_⟩
        walk_at "d"
        have en : (1 : Int) + (r4 : Int) = ((1 + r4 : Nat) : Int) := by omega
        rw [en]
        have hn1 : 1 ≤ 1 + r4 := by omega
        have hn2 : 1 + r4 ≤ 20 := by omega
        generalize 1 + r4 = n at *
        have hs0 := ra_pos (b := t) ho
        have hs1 := rb_pos (a := o) ht
        have hs2 : ra o t ≤ 4 := Nat.le_trans (Nat.div_le_self _ _) ho4
        have hs3 : rb o t ≤ 4 := Nat.le_trans (Nat.div_le_self _ _) ht4
        generalize ra o t = s0 at *
        generalize rb o t = s1 at *
        show rSeq _ _ _ _
        generalize hT : hide (rSeq (rSet 5 _) _) = T
        walk_at "r"
        refine ⟨n, s1, 5, rfl, hn1, by omega, by omega, ?_⟩
        walk_at "d"
        rw [← hT]
        clear hT T
        show rSeq _ _ _ _
        generalize hT : hide (rSet 4 _) = T
        walk_at "r"
        refine ⟨200, rfl, by decide, fun r5 h5 => ?_⟩
        walk_at "d"
        have en : (1 : Int) + (r5 : Int) = ((1 + r5 : Nat) : Int) := by omega
        rw [en]
        have hr1 : 1 ≤ 1 + r5 := by omega
        have hr2 : 1 + r5 ≤ 200 := by omega
        generalize 1 + r5 = e at *
        refine ⟨1, e, rfl, by decide, by omega, by have := log2_of (n := e) (k := 10) (by omega) (by decide); omega, ?_⟩
        walk_at "d"
        rw [← hT]
        clear hT T
        rw [show ra 1 e = 1 from by unfold ra; rw [Nat.gcd_one_left], show rb 1 e = e from by unfold rb; rw [Nat.gcd_one_left, Nat.div_one]]
        show rSet _ _ _ _
        walk_at "r"
        have hns : n ^ s0 ≤ 160000 := Nat.le_trans (Nat.pow_le_pow_left hn2 s0) (Nat.le_trans (Nat.pow_le_pow_right (n := 20) (by decide) hs2) (by decide))
        have hns0 : 1 ≤ n ^ s0 := Nat.pow_pos hn1
        refine ⟨n, s0, 5, rfl, hn1, by omega, by omega, ?_⟩
        walk_at "r"
        refine ⟨two_le, n ^ s0, 1, 1, e, rfl, hns0, by decide, by decide, hr1, by omega, by decide, by decide, by omega, ?_⟩
        walk_at "d"
        rw [← hV]
        show rRet _ (kq q) _
        walk_at "d"
        refine ⟨by rw [sizeLine_eq]; decide, ?_⟩
        have g1 : ra (n ^ s0 * 1) (1 * e) ≤ 160000 := Nat.le_trans (Nat.div_le_self _ _) (by omega)
        have g2 : rb (n ^ s0 * 1) (1 * e) ≤ 200 := Nat.le_trans (Nat.div_le_self _ _) (by omega)
        have g3 : 0 < ra (n ^ s0 * 1) (1 * e) := ra_pos (by omega)
        have g4 : 0 < rb (n ^ s0 * 1) (1 * e) := rb_pos (by omega)
        have g5 : ra (n ^ s0 * 1) (1 * e) * e = n ^ s0 * rb (n ^ s0 * 1) (1 * e) := by
          have := ra_mul (n ^ s0 * 1) (1 * e)
          rw [Nat.mul_one, Nat.one_mul] at *
          exact this
        have hlt : ra (n ^ s0 * 1) (1 * e) * e ≤ 160000 * 200 := Nat.mul_le_mul g1 hr2
        refine h _ _ s0 s1 1 e (n ^ s1) ⟨⟨g3, by omega⟩, ⟨g4, by omega⟩, ⟨by decide, by decide⟩, ⟨hr1, by omega⟩, ⟨hs0, by omega⟩, hs1, ⟨80, by omega, by omega, by omega⟩, fun _ => ⟨hs3, g1, by omega, rfl, hr2, n, hn1, rfl, ?_⟩⟩
        exact g5.trans (congrArg _ (Nat.mul_one _).symm)
      · rw [← hV]
        show rRet _ (kq q) _
        walk_at "d"
        refine ⟨by rw [sizeLine_eq]; decide, ?_⟩
        refine h k0 k1 (ra o t) (rb o t) e0 e1 0 ⟨b1, b2, b3, b4, ⟨ra_pos ho, Nat.le_trans (Nat.div_le_self _ _) ho'⟩, rb_pos ht, hA, fun z => by omega⟩
    show rSeq _ _ (kq q) _
    generalize hT0 : hide (rSeq (rSet 4 (rCall sp__law_fraction _ _)) (rSet 5 _)) = T0
    generalize hT1 : hide (rSeq (rSet 4 (rCall sp__law_pick _ _)) _) = T1
    generalize hT2 : hide (rSet 5 (rCall sp__law_fraction _ _)) = T2
    have bF : ∀ (g a b : Nat), 1 ≤ a → a ≤ g → 1 ≤ b → b ≤ g → (0 < ra a b ∧ ra a b ≤ g) ∧ 0 < rb a b ∧ rb a b ≤ g := fun g a b h1 h2 h3 h4 =>
      ⟨⟨ra_pos h1, Nat.le_trans (Nat.div_le_self _ _) h2⟩, rb_pos h3, Nat.le_trans (Nat.div_le_self _ _) h4⟩
    have bB : ∀ o t : Nat, rb o t ≤ t := fun o t => Nat.div_le_self _ _
    have big : ∀ k0 k1 e0 e1 s : Nat, k0 ≤ 999999999999 → k1 ≤ 999999999999 → e0 ≤ 999999999999 → e1 ≤ 999999999999 → s ≤ 120 → ∃ A, k0 * e1 < 2 ^ A ∧ k1 * (e0 + 1) < 2 ^ A ∧ A * s ≤ 10000 := fun k0 k1 e0 e1 s h1 h2 h3 h4 h5 => by
      have g1 : k0 * e1 ≤ 999999999999 * 999999999999 := Nat.mul_le_mul h1 h4
      have g2 : k1 * (e0 + 1) ≤ 999999999999 * 1000000000000 := Nat.mul_le_mul h2 (by omega)
      exact ⟨80, by omega, by omega, by omega⟩
    walk_at "r"
    have e1 : (1 : Int) + (r1 : Int) = ((1 + r1 : Nat) : Int) := by omega
    have e2 : (1 : Int) + (r2 : Int) = ((1 + r2 : Nat) : Int) := by omega
    have eN : ∀ r : Nat, (1 : Int) + (r : Int) = ((1 + r : Nat) : Int) := fun r => by omega
    refine ⟨fun z => ?_, fun z0 => ⟨fun z => ?_, fun z1 => ⟨fun z => ?_, fun z2 => ?_⟩⟩⟩
    · have hk0 : kind = 0 := by omega
      refine ⟨999, rfl, by decide, fun r4 h4 => ?_⟩
      walk_at "d"
      refine ⟨999, rfl, by decide, fun r5 h5 => ?_⟩
      walk_at "d"
      rw [← hT0, eN r4, eN r5]
      show rSeq _ _ _ _
      walk_at "d"
      refine ⟨31, rfl, by decide, by decide, fun c d hc hc' hd hd' => ?_⟩
      walk_at "d"
      refine ⟨31, rfl, by decide, by decide, fun e f he he' hf hf' => ?_⟩
      walk_at "d"
      obtain ⟨⟨x1, x2⟩, x3, x4⟩ := bF 31 c d hc hc' hd hd'
      obtain ⟨⟨y1, y2⟩, y3, y4⟩ := bF 31 e f he he' hf hf'
      have g1 : ra c d * rb e f ≤ 31 * 31 := Nat.mul_le_mul x2 y4
      have g2 : rb c d * (ra e f + 1) ≤ 31 * 32 := Nat.mul_le_mul x4 (by omega)
      have g3 := bB (1 + r4) (1 + r5)
      exact tail _ _ _ _ _ _ (by omega) (by omega) (by omega) (by omega) ⟨x1, by omega⟩ ⟨x3, by omega⟩ ⟨y1, by omega⟩ ⟨y3, by omega⟩ ⟨10, by omega, by omega, by omega⟩ (fun z => by omega)
    · have hk0 : kind = 1 := by omega
      refine ⟨120, rfl, by decide, fun r4 h4 => ?_⟩
      walk_at "d"
      refine ⟨by rw [sizeLine_eq]; decide, [.int 1, .int (1 + (r4 : Int)), .int 999], rfl, (fun z => nomatch z), (by show 3 < 1000; decide), fun d hd => ?_⟩
      have hd2 : ∃ o : Nat, d = .int o ∧ 1 ≤ o ∧ o ≤ 999 := by
        rcases List.mem_cons.mp hd with e | hd
        · exact ⟨1, e, by decide, by decide⟩
        rcases List.mem_cons.mp hd with e | hd
        · exact ⟨1 + r4, by rw [e, eN r4], by omega, by omega⟩
        · exact ⟨999, List.mem_singleton.mp hd, by decide, by decide⟩
      obtain ⟨o, rfl, ho, ho'⟩ := hd2
      clear hd
      walk_at "d"
      refine ⟨120, rfl, by decide, fun r5 h5 => ?_⟩
      walk_at "d"
      rw [← hT1, eN r5]
      clear hT1 T1 hT0 T0 hT2 T2
      show rSeq _ _ _ _
      generalize hT3 : rSet 5 _ = T3
      walk_at "d"
      have pk : ∀ (u v : Nat) (d : D), (1 ≤ u ∧ u ≤ 999999999999) → (1 ≤ v ∧ v ≤ 999999999999) → ∀ c e : Nat, 1 ≤ c → c ≤ 999999999999 → 1 ≤ e → e ≤ 999999999999 → d ∈ [Fr u v, Fr (ra c e) (rb c e)] → ∃ x y : Nat, d = Fr x y ∧ (0 < x ∧ x ≤ 999999999999) ∧ 0 < y ∧ y ≤ 999999999999 := by
        intro u v d hu hv c e h1 h2 h3 h4 hd
        rcases List.mem_cons.mp hd with e | hd
        · exact ⟨u, v, e, hu, hv⟩
        · exact ⟨_, _, List.mem_singleton.mp hd, bF _ _ _ h1 h2 h3 h4⟩
      refine ⟨by rw [sizeLine_eq]; decide, 999999999999, rfl, by decide, by decide, fun c e hc hc' he he' => ?_⟩
      walk_at "d"
      refine ⟨by rw [sizeLine_eq]; decide, [Fr 999999999999 1, Fr (ra c e) (rb c e)], rfl, (fun z => nomatch z), (by show 2 < 1000; decide), fun d hd => ?_⟩
      obtain ⟨k0, k1, rfl, x1, x2⟩ := pk 999999999999 1 d ⟨by decide, by decide⟩ ⟨by decide, by decide⟩ c e hc hc' he he' hd
      rw [← hT3]
      clear hT3 T3 hd
      walk_at "d"
      refine ⟨by rw [sizeLine_eq]; decide, 999999999999, rfl, by decide, by decide, fun c e hc hc' he he' => ?_⟩
      walk_at "d"
      refine ⟨by rw [sizeLine_eq]; decide, [Fr 1 999999999999, Fr (ra c e) (rb c e)], rfl, (fun z => nomatch z), (by show 2 < 1000; decide), fun d hd => ?_⟩
      obtain ⟨e0, e1, rfl, y1, y2⟩ := pk 1 999999999999 d ⟨by decide, by decide⟩ ⟨by decide, by decide⟩ c e hc hc' he he' hd
      have g3 := bB o (1 + r5)
      exact tail o (1 + r5) k0 k1 e0 e1 ho ho' (by omega) (by omega) x1 x2 y1 y2 (big _ _ _ _ _ x1.2 x2.2 y1.2 y2.2 (by omega)) (fun z => by omega)
    · have hk0 : kind = 2 := by omega
      refine ⟨999999999999, rfl, by decide, by decide, fun c d hc hc' hd hd' => ?_⟩
      walk_at "d"
      rw [← hT2, eN r1, eN r2]
      show rSet _ _ _ _
      walk_at "d"
      refine ⟨999999999999, rfl, by decide, by decide, fun e f he he' hf hf' => ?_⟩
      walk_at "d"
      obtain ⟨⟨x1, x2⟩, x3, x4⟩ := bF _ c d hc hc' hd hd'
      obtain ⟨⟨y1, y2⟩, y3, y4⟩ := bF _ e f he he' hf hf'
      have g3 := bB (1 + r1) (1 + r2)
      exact tail _ _ _ _ _ _ (by omega) (by omega) (by omega) (by omega) ⟨x1, by omega⟩ ⟨x3, by omega⟩ ⟨y1, by omega⟩ ⟨y3, by omega⟩ (big _ _ _ _ _ (by omega) (by omega) (by omega) (by omega) (by omega)) (fun z => by omega)
    · rw [eN r1, eN r2]
      obtain ⟨⟨x1, x2⟩, x3, x4⟩ := bF _ a b ha ha' hb hb'
      obtain ⟨⟨y1, y2⟩, y3, y4⟩ := bF 1000 1 (1 + r3) (by omega) (by omega) (by omega) (by omega)
      have g3 := bB (1 + r1) (1 + r2)
      exact tail _ _ _ _ _ _ (by omega) (by omega) (by omega) (by omega) ⟨x1, by omega⟩ ⟨x3, by omega⟩ ⟨y1, by omega⟩ ⟨y3, by omega⟩ (big _ _ _ _ _ (by omega) (by omega) (by omega) (by omega) (by omega)) (fun z => by omega)

end
end Cl

set_option maxHeartbeats 2000000
namespace Cl
open PySem PySem.Spec L2 DL M
theorem g_mul (a b : Nat) : a = Nat.gcd a b * ra a b ∧ b = Nat.gcd a b * rb a b := by
  unfold ra rb
  exact ⟨(Nat.mul_div_cancel' (Nat.gcd_dvd_left a b)).symm, (Nat.mul_div_cancel' (Nat.gcd_dvd_right a b)).symm⟩
/-- shortened or not: the same -/
theorem reach {x y n hi lo : Nat} (hx : 0 < x) : (ra x y) ^ lo ≤ n ^ hi * (rb x y) ^ lo ↔ x ^ lo ≤ n ^ hi * y ^ lo := by
  obtain ⟨h1, h2⟩ := g_mul x y
  have hg : 0 < Nat.gcd x y := Nat.gcd_pos_of_pos_left y hx
  have hg2 : 0 < Nat.gcd x y ^ lo := Nat.pow_pos hg
  have e1 : x ^ lo = Nat.gcd x y ^ lo * ra x y ^ lo := by rw [← Nat.mul_pow, ← h1]
  have e2 : n ^ hi * y ^ lo = Nat.gcd x y ^ lo * (n ^ hi * rb x y ^ lo) := by
    rw [Nat.mul_left_comm, ← Nat.mul_pow, ← h2]
  rw [e1, e2]
  exact (Nat.mul_le_mul_left_iff hg2).symm
theorem fwOk_of {k0 k1 s0 s1 e0 e1 lv : Nat} (ok : WorldOk k0 k1 s0 s1 e0 e1 lv) (c : Nat) (hc : 0 < c) (hc2 : c ≤ 999999999999) (hc3 : c ≤ e0 + 1) : FwOk k0 k1 c e1 s0 s1 := by
  obtain ⟨⟨f1, f1'⟩, ⟨f2, f2'⟩, ⟨f3, f3'⟩, ⟨f4, f4'⟩, ⟨f5, f5'⟩, f6, ⟨A, hA1, hA2, hA3⟩, _⟩ := ok
  refine ⟨f1, f2, hc, f4, by omega, by omega, by omega, by omega, f5, by omega, f6, A, ?_, ?_, by omega⟩
  · exact Nat.lt_of_le_of_lt (Nat.div_le_self _ _) hA1
  · exact Nat.lt_of_le_of_lt (Nat.div_le_self _ _) (Nat.lt_of_le_of_lt (Nat.mul_le_mul_left _ hc3) hA2)
theorem fwOk_near {k0 k1 s0 s1 e0 e1 lv : Nat} (ok : WorldOk k0 k1 s0 s1 e0 e1 lv) (hl : 0 < lv) : FwOk k0 k1 (ra (e0 * 999999) (e1 * 1000000)) (rb (e0 * 999999) (e1 * 1000000)) s0 s1 := by
  obtain ⟨⟨f1, f1'⟩, ⟨f2, f2'⟩, ⟨f3, f3'⟩, ⟨f4, f4'⟩, ⟨f5, f5'⟩, f6, _, hv⟩ := ok
  obtain ⟨g1, g2, g3, g4, g5, _⟩ := hv hl
  have x1 : 0 < ra (e0 * 999999) (e1 * 1000000) := ra_pos (by omega)
  have x2 : 0 < rb (e0 * 999999) (e1 * 1000000) := rb_pos (by omega)
  have x3 : ra (e0 * 999999) (e1 * 1000000) ≤ 999999 := Nat.le_trans (Nat.div_le_self _ _) (by omega)
  have x4 : rb (e0 * 999999) (e1 * 1000000) ≤ 200000000 := Nat.le_trans (Nat.div_le_self _ _) (by omega)
  generalize ra (e0 * 999999) (e1 * 1000000) = c at *
  generalize rb (e0 * 999999) (e1 * 1000000) = d at *
  have y1 : k0 * d ≤ 160000 * 200000000 := Nat.mul_le_mul g2 x4
  have y2 : k1 * c ≤ 160000 * 999999 := Nat.mul_le_mul g3 x3
  refine ⟨f1, f2, x1, x2, by omega, by omega, by omega, by omega, f5, by omega, f6, 60, ?_, ?_, by omega⟩
  · exact Nat.lt_of_le_of_lt (Nat.div_le_self _ _) (by omega)
  · exact Nat.lt_of_le_of_lt (Nat.div_le_self _ _) (by omega)
theorem level_eq {k0 k1 s0 s1 e0 e1 lv n : Nat} (ok : WorldOk k0 k1 s0 s1 e0 e1 lv) (hl : 0 < lv) (h : FwLeast k0 k1 e0 e1 s0 s1 n) : n = lv := by
  obtain ⟨⟨f1, _⟩, ⟨f2, _⟩, ⟨f3, _⟩, ⟨f4, _⟩, ⟨f5, _⟩, f6, _, hv⟩ := ok
  obtain ⟨_, _, _, _, _, m, hm, rfl, e⟩ := hv hl
  have hx : 0 < k0 * e1 := Nat.mul_pos f1 f4
  have hy : 0 < k1 * e0 := Nat.mul_pos f2 f3
  have e2 := ra_mul (k0 * e1) (k1 * e0)
  have hb : 0 < rb (k0 * e1) (k1 * e0) := rb_pos hy
  unfold FwLeast at h
  generalize ra (k0 * e1) (k1 * e0) = a at *
  generalize rb (k0 * e1) (k1 * e0) = b at *
  rw [e] at e2
  have e3 : a = m ^ s0 * b := by
    refine Nat.eq_of_mul_eq_mul_right hy ?_
    rw [e2]
    simp only [Nat.mul_assoc, Nat.mul_comm, Nat.mul_left_comm]
  have hbp : 0 < b ^ s1 := Nat.pow_pos hb
  have e4 : a ^ s1 = (m ^ s1) ^ s0 * b ^ s1 := by
    rw [e3, Nat.mul_pow, ← Nat.pow_mul, ← Nat.pow_mul, Nat.mul_comm s0]
  refine h.eq ⟨hl, Nat.le_of_eq e4, ?_⟩
  by_cases h1 : m ^ s1 = 1
  · exact .inl h1
  · refine .inr ?_
    rw [e4]
    refine Nat.mul_lt_mul_of_pos_right ?_ hbp
    exact Nat.pow_lt_pow_left (by omega) (by omega)
theorem more_le {k0 k1 s0 s1 e0 e1 c n m : Nat} (hx : 0 < k0 * e1) (hc : e0 ≤ c) (h : FwLeast k0 k1 e0 e1 s0 s1 n) (g : FwLeast k0 k1 c e1 s0 s1 m) : m ≤ n := by
  refine g.le h.1 ((reach hx).mpr (Nat.le_trans ((reach hx).mp h.2.1) ?_))
  exact Nat.mul_le_mul_left _ (Nat.pow_le_pow_left (Nat.mul_le_mul_left _ hc) _)
theorem less_gt {k0 k1 s0 s1 e0 e1 lv n : Nat} (ok : WorldOk k0 k1 s0 s1 e0 e1 lv) (hl : 0 < lv) (h : FwLeast k0 k1 (ra (e0 * 999999) (e1 * 1000000)) (rb (e0 * 999999) (e1 * 1000000)) s0 s1 n) : lv < n := by
  obtain ⟨⟨f1, _⟩, ⟨f2, _⟩, ⟨f3, _⟩, ⟨f4, _⟩, ⟨f5, _⟩, f6, _, hv⟩ := ok
  obtain ⟨_, _, _, _, _, m, hm, rfl, e⟩ := hv hl
  refine Nat.lt_of_not_le fun hle => ?_
  have e2 := ra_mul (e0 * 999999) (e1 * 1000000)
  have x2 : 0 < rb (e0 * 999999) (e1 * 1000000) := rb_pos (by omega)
  unfold FwLeast at h
  generalize ra (e0 * 999999) (e1 * 1000000) = c at *
  generalize rb (e0 * 999999) (e1 * 1000000) = d at *
  have h2 := (reach (Nat.mul_pos f1 x2)).mp h.2.1
  have h3 : (k0 * d) ^ s1 ≤ (m ^ s0 * (k1 * c)) ^ s1 := by
    refine Nat.le_trans h2 ?_
    rw [Nat.mul_pow (m ^ s0), ← Nat.pow_mul m s0 s1, Nat.mul_comm s0, Nat.pow_mul]
    exact Nat.mul_le_mul_right _ (Nat.pow_le_pow_left hle _)
  have h4 : k0 * d ≤ m ^ s0 * (k1 * c) := (Nat.pow_le_pow_iff_left (by omega)).mp h3
  have h5 : k0 * d * (e1 * 1000000) ≤ m ^ s0 * (k1 * c) * (e1 * 1000000) := Nat.mul_le_mul_right _ h4
  have h6 : m ^ s0 * (k1 * c) * (e1 * 1000000) = k0 * d * (e1 * 999999) := by
    calc m ^ s0 * (k1 * c) * (e1 * 1000000) = m ^ s0 * k1 * (c * (e1 * 1000000)) := by rw [← Nat.mul_assoc (m ^ s0), Nat.mul_assoc]
      _ = m ^ s0 * k1 * (e0 * 999999 * d) := by rw [e2]
      _ = (m ^ s0 * (k1 * e0)) * (999999 * d) := by simp only [Nat.mul_assoc, Nat.mul_comm, Nat.mul_left_comm]
      _ = k0 * e1 * (999999 * d) := by rw [← e]
      _ = k0 * d * (e1 * 999999) := by simp only [Nat.mul_assoc, Nat.mul_comm, Nat.mul_left_comm]
  rw [h6] at h5
  have hp : 0 < k0 * d := Nat.mul_pos f1 x2
  have h7 := Nat.le_of_mul_le_mul_left h5 hp
  omega
theorem last_ok {s0 s1 k0 k1 e0 e1 lv : Nat} (ok : WorldOk k0 k1 s0 s1 e0 e1 lv) : FwOk 1 9 1 9 s0 s1 ∧ ∀ n, FwLeast 1 9 1 9 s0 s1 n → n = 1 := by
  obtain ⟨⟨f1, f1'⟩, ⟨f2, f2'⟩, ⟨f3, f3'⟩, ⟨f4, f4'⟩, ⟨f5, f5'⟩, f6, ⟨A, hA1, hA2, hA3⟩, _⟩ := ok
  have hA : 1 ≤ A := by
    by_cases h : A = 0
    · subst h
      have : 0 < k1 * (e0 + 1) := Nat.mul_pos f2 (by omega)
      omega
    · omega
  have e1 : ra (1 * 9) (9 * 1) = 1 := by decide
  have e2 : rb (1 * 9) (9 * 1) = 1 := by decide
  have hs : s1 ≤ 10000 := Nat.le_trans (Nat.le_mul_of_pos_left s1 hA) hA3
  refine ⟨⟨by decide, by decide, by decide, by decide, by decide, by decide, by decide, by decide, f5, by omega, f6, 1, by rw [e1]; decide, by rw [e2]; decide, by omega⟩, fun n h => ?_⟩
  exact h.eq (least_one (by rw [e1, e2]; decide))
end Cl

set_option maxHeartbeats 2000000
namespace Cl
open PySem PySem.Spec L2 DL M
def bodyOf : Stmt → List Stmt
  | .ClassDef _ _ _ b _ _ _ _ _ _ _ => b
  | _ => []
abbrev s_init : Stmt := (bodyOf (top 30)).getD 0 (.Pass ⟨0, 0, 0, 0⟩)
section
variable {P : Program} {w : World} {K : PySem.W.Frag} {mg : Str → Option Value} {base : Heap}
theorem sc_init : FnScope ["self", "yes", "papers", "k", "sigma", "choice", "c"] ["self", "yes", "papers", "k", "sigma", "choice", "c"] (defScope s_init) := ⟨rfl, rfl, rfl, by decide +kernel, rfl, by decide +kernel, by decide +kernel⟩
theorem ok_init {f C : Addr} {fd : FuncData} {kws : List (Str × V)} (hC : Cls K C) (nC : ∀ f ∈ namesB, NoAttr K C f) (F : FunD K "__init__" "Beneath.__init__" (defArgs s_init) (defBody s_init) (defScope s_init) [] kws f fd) :
    FnOk P w K mg base (L2N.CX P w) 1 f fd ["self", "yes", "papers", "k", "sigma", "choice", "c"] (spIns C namesB) := by
  refine okN (F.ok sc_init (fun vs H Q E h => ?_) (fun cdv A outer s H vs Q E hr h => ⟨_, PSs.nox (pss_cons (ps_fld (pv 0) (pv 1) rfl) (pss_cons (ps_fld (pv 0) (pv 2) rfl) (pss_cons (ps_fld (pv 0) (pv 3) rfl) (pss_cons (ps_fld (pv 0) (pv 4) rfl) (pss_cons (ps_fld (pv 0) (pv 5) rfl) (pss_one (ps_fld (pv 0) (pv 6) rfl))))))), ?_⟩))
  · obtain ⟨a, dx, ws, rfl, _, hl, _⟩ := h
    simp only [List.length_cons]
    rw [hl]
    rfl
  · obtain ⟨a, dx, ws, rfl, ha, hl, h⟩ := h
    match ws, hl with
    | [v1, v2, v3, v4, v5, v6], _ =>
      have n1 := nC "yes" (by decide)
      have n2 := nC "papers" (by decide)
      have n3 := nC "k" (by decide)
      have n4 := nC "sigma" (by decide)
      have n5 := nC "choice" (by decide)
      have n6 := nC "c" (by decide)
      refine ⟨v1, rfl, .ref a, rfl, a, C, dx, [], rfl, ha, hC, n1, (show (0 : Nat) < 1000 by decide), ?_⟩
      refine ⟨v2, rfl, .ref a, rfl, a, C, dx, _, rfl, upd_same, hC, n2, (show (1 : Nat) < 1000 by decide), ?_⟩
      refine ⟨v3, rfl, .ref a, rfl, a, C, dx, _, rfl, upd_same, hC, n3, (show (2 : Nat) < 1000 by decide), ?_⟩
      refine ⟨v4, rfl, .ref a, rfl, a, C, dx, _, rfl, upd_same, hC, n4, (show (3 : Nat) < 1000 by decide), ?_⟩
      refine ⟨v5, rfl, .ref a, rfl, a, C, dx, _, rfl, upd_same, hC, n5, (show (4 : Nat) < 1000 by decide), ?_⟩
      refine ⟨v6, rfl, .ref a, rfl, a, C, dx, _, rfl, upd_same, hC, n6, (show (5 : Nat) < 1000 by decide), ?_⟩
      have e : ∀ (H : Hp) (o o' : HO), upd (upd H a o) a o' = upd H a o' := fun H o o' => by
        funext b
        by_cases hb : b = a
        · rw [hb, upd_same, upd_same]
        · rw [upd_ne hb, upd_ne hb, upd_ne hb]
      rw [e, e, e, e, e]
      exact h
def kwB : List (Str × V) := [("papers", .non), ("k", .non), ("sigma", .non), ("choice", .non), ("c", .non)]
def put3 {α : Type} (us mv ws : List α) : List α := match us, mv, ws with
  | [a0, a1], [m0, m1], [g0, g1, g2] => [a0, a1, g0, g1, g2, m0, m1]
  | _, _, _ => us
theorem put3_rel {vs mz zs : List V} {us mv ws : List Value} (h1 : Vals vs us) (h2 : Vals mz mv) (h3 : Vals zs ws) : Vals (put3 vs mz zs) (put3 us mv ws) := by
  unfold put3
  split
  ·
    cases h1 with
    | cons ra0 h1 =>
      cases h1 with
      | cons ra1 h1 =>
        cases h1
        cases h2 with
        | cons rm0 h2 =>
          cases h2 with
          | cons rm1 h2 =>
            cases h2
            cases h3 with
            | cons rg0 h3 =>
              cases h3 with
              | cons rg1 h3 =>
                cases h3 with
                | cons rg2 h3 =>
                  cases h3
                  exact .cons ra0 (.cons ra1 (.cons rg0 (.cons rg1 (.cons rg2 (.cons rm0 (.cons rm1 .nil))))))
  · rename_i hno
    split
    · exfalso
      cases h1 with
      | cons ra0 h1 =>
        cases h1 with
        | cons ra1 h1 =>
          cases h1
          cases h2 with
          | cons rm0 h2 =>
            cases h2 with
            | cons rm1 h2 =>
              cases h2
              cases h3 with
              | cons rg0 h3 =>
                cases h3 with
                | cons rg1 h3 =>
                  cases h3 with
                  | cons rg2 h3 =>
                    cases h3
                    exact hno _ _ _ _ _ _ _ rfl rfl rfl
    · exact h1
theorem calK3 {f C : Addr} {fd : FuncData} (M : Mk K C f) (hm : mg "Beneath" = some (.ref C)) (hC : Cls K C) (nC : ∀ f ∈ namesB, NoAttr K C f) (F : FunD K "__init__" "Beneath.__init__" (defArgs s_init) (defBody s_init) (defScope s_init) [] kwB f fd) :
    CalK P w K mg base 1 "Beneath" C namesB 1 ["papers", "k", "sigma"] (fun ds es => [ds.getD 0 .non, es.getD 0 .non, es.getD 1 .non, es.getD 2 .non, .non, .non]) := by
  obtain ⟨mv, hb⟩ := F.kbinds0 (ps := ["self", "yes", "papers", "k", "sigma", "choice", "c"]) 2 ["papers", "k", "sigma"] [("choice", .non), ("c", .non)] put3 (by decide) (by decide) put3_rel (fun D doc pm an cdv ct us mv ws h1 h2 h3 => by
    match us, mv, ws, h1, h2, h3 with
    | [a0, a1], [m0, m1], [g0, g1, g2], _, _, _ => exact ⟨_, _, _, _, _, _, rfl, rfl, _, _, _, _, _, _, rfl, rfl, rfl⟩)
  refine ⟨f, fd, _, _, _, M, ok_init hC nC F, hm, hb, fun a vs zs h1 h2 => ?_⟩
  match vs, zs, h1, h2 with
  | [a1], [g0, g1, g2], _, _ =>
    refine ⟨[a1, g0, g1, g2, .non, .non], rfl, rfl, fun S z H ds es r1 r2 => ?_⟩
    cases r1 with
    | cons ra1 r1 =>
      cases r1
      cases r2 with
      | cons rg0 r2 =>
        cases r2 with
        | cons rg1 r2 =>
          cases r2 with
          | cons rg2 r2 =>
            cases r2
            exact .cons ra1 (.cons rg0 (.cons rg1 (.cons rg2 (.cons .non (.cons .non .nil)))))
def putc {α : Type} (us mv ws : List α) : List α := match us, mv, ws with
  | [a0, a1], [m0, m1, m2], [g0, g1] => [a0, a1, m0, m1, m2, g0, g1]
  | _, _, _ => us
theorem putc_rel {vs mz zs : List V} {us mv ws : List Value} (h1 : Vals vs us) (h2 : Vals mz mv) (h3 : Vals zs ws) : Vals (putc vs mz zs) (putc us mv ws) := by
  unfold putc
  split
  ·
    cases h1 with
    | cons ra0 h1 =>
      cases h1 with
      | cons ra1 h1 =>
        cases h1
        cases h2 with
        | cons rm0 h2 =>
          cases h2 with
          | cons rm1 h2 =>
            cases h2 with
            | cons rm2 h2 =>
              cases h2
              cases h3 with
              | cons rg0 h3 =>
                cases h3 with
                | cons rg1 h3 =>
                  cases h3
                  exact .cons ra0 (.cons ra1 (.cons rm0 (.cons rm1 (.cons rm2 (.cons rg0 (.cons rg1 .nil))))))
  · rename_i hno
    split
    · exfalso
      cases h1 with
      | cons ra0 h1 =>
        cases h1 with
        | cons ra1 h1 =>
          cases h1
          cases h2 with
          | cons rm0 h2 =>
            cases h2 with
            | cons rm1 h2 =>
              cases h2 with
              | cons rm2 h2 =>
                cases h2
                cases h3 with
                | cons rg0 h3 =>
                  cases h3 with
                  | cons rg1 h3 =>
                    cases h3
                    exact hno _ _ _ _ _ _ _ rfl rfl rfl
    · exact h1
theorem calKc {f C : Addr} {fd : FuncData} (M : Mk K C f) (hm : mg "Beneath" = some (.ref C)) (hC : Cls K C) (nC : ∀ f ∈ namesB, NoAttr K C f) (F : FunD K "__init__" "Beneath.__init__" (defArgs s_init) (defBody s_init) (defScope s_init) [] kwB f fd) :
    CalK P w K mg base 1 "Beneath" C namesB 1 ["choice", "c"] (fun ds es => [ds.getD 0 .non, .non, .non, .non, es.getD 0 .non, es.getD 1 .non]) := by
  obtain ⟨mv, hb⟩ := F.kbinds0 (ps := ["self", "yes", "papers", "k", "sigma", "choice", "c"]) 2 ["choice", "c"] [("papers", .non), ("k", .non), ("sigma", .non)] putc (by decide) (by decide) putc_rel (fun D doc pm an cdv ct us mv ws h1 h2 h3 => by
    match us, mv, ws, h1, h2, h3 with
    | [a0, a1], [m0, m1, m2], [g0, g1], _, _, _ => exact ⟨_, _, _, _, _, _, rfl, rfl, _, _, _, _, _, _, rfl, rfl, _, _, _, _, _, _, rfl, rfl, rfl⟩)
  refine ⟨f, fd, _, _, _, M, ok_init hC nC F, hm, hb, fun a vs zs h1 h2 => ?_⟩
  match vs, zs, h1, h2 with
  | [a1], [g0, g1], _, _ =>
    refine ⟨[a1, .non, .non, .non, g0, g1], rfl, rfl, fun S z H ds es r1 r2 => ?_⟩
    cases r1 with
    | cons ra1 r1 =>
      cases r1
      cases r2 with
      | cons rg0 r2 =>
        cases r2 with
        | cons rg1 r2 =>
          cases r2
          exact .cons ra1 (.cons .non (.cons .non (.cons .non (.cons rg0 (.cons rg1 .nil)))))
def put2b {α : Type} (us mv ws : List α) : List α := match us, mv, ws with
  | [a0, a1], [m0, m1, m2], [g0, g1] => [a0, a1, m0, g0, g1, m1, m2]
  | _, _, _ => us
theorem put2b_rel {vs mz zs : List V} {us mv ws : List Value} (h1 : Vals vs us) (h2 : Vals mz mv) (h3 : Vals zs ws) : Vals (put2b vs mz zs) (put2b us mv ws) := by
  unfold put2b
  split
  ·
    cases h1 with
    | cons ra0 h1 =>
      cases h1 with
      | cons ra1 h1 =>
        cases h1
        cases h2 with
        | cons rm0 h2 =>
          cases h2 with
          | cons rm1 h2 =>
            cases h2 with
            | cons rm2 h2 =>
              cases h2
              cases h3 with
              | cons rg0 h3 =>
                cases h3 with
                | cons rg1 h3 =>
                  cases h3
                  exact .cons ra0 (.cons ra1 (.cons rm0 (.cons rg0 (.cons rg1 (.cons rm1 (.cons rm2 .nil))))))
  · rename_i hno
    split
    · exfalso
      cases h1 with
      | cons ra0 h1 =>
        cases h1 with
        | cons ra1 h1 =>
          cases h1
          cases h2 with
          | cons rm0 h2 =>
            cases h2 with
            | cons rm1 h2 =>
              cases h2 with
              | cons rm2 h2 =>
                cases h2
                cases h3 with
                | cons rg0 h3 =>
                  cases h3 with
                  | cons rg1 h3 =>
                    cases h3
                    exact hno _ _ _ _ _ _ _ rfl rfl rfl
    · exact h1
theorem calK2b {f C : Addr} {fd : FuncData} (M : Mk K C f) (hm : mg "Beneath" = some (.ref C)) (hC : Cls K C) (nC : ∀ f ∈ namesB, NoAttr K C f) (F : FunD K "__init__" "Beneath.__init__" (defArgs s_init) (defBody s_init) (defScope s_init) [] kwB f fd) :
    CalK P w K mg base 1 "Beneath" C namesB 1 ["k", "sigma"] (fun ds es => [ds.getD 0 .non, .non, es.getD 0 .non, es.getD 1 .non, .non, .non]) := by
  obtain ⟨mv, hb⟩ := F.kbinds0 (ps := ["self", "yes", "papers", "k", "sigma", "choice", "c"]) 2 ["k", "sigma"] [("papers", .non), ("choice", .non), ("c", .non)] put2b (by decide) (by decide) put2b_rel (fun D doc pm an cdv ct us mv ws h1 h2 h3 => by
    match us, mv, ws, h1, h2, h3 with
    | [a0, a1], [m0, m1, m2], [g0, g1], _, _, _ => exact ⟨_, _, _, _, _, _, rfl, rfl, _, _, _, _, _, _, rfl, rfl, _, _, _, _, _, _, rfl, rfl, rfl⟩)
  refine ⟨f, fd, _, _, _, M, ok_init hC nC F, hm, hb, fun a vs zs h1 h2 => ?_⟩
  match vs, zs, h1, h2 with
  | [a1], [g0, g1], _, _ =>
    refine ⟨[a1, .non, g0, g1, .non, .non], rfl, rfl, fun S z H ds es r1 r2 => ?_⟩
    cases r1 with
    | cons ra1 r1 =>
      cases r1
      cases r2 with
      | cons rg0 r2 =>
        cases r2 with
        | cons rg1 r2 =>
          cases r2
          exact .cons ra1 (.cons .non (.cons rg0 (.cons rg1 (.cons .non (.cons .non .nil)))))
end
end Cl

set_option maxHeartbeats 2000000
set_option exponentiation.threshold 200000
namespace Cl
open PySem PySem.Spec L2 DL M
local macro_rules | `(tactic| walk_at "d") => `(tactic| dsimp only [rSeq, rSet, rUn, rVar, rMov, rC, rBin, rBinP', rBinP, rCall, rCons, rNil, rTup, rLst, rIf, rRet, rRetN, rVal, rTru, rNot, rAnd, rOr, rAndV, rOrV, gNot, rIfE, rNext, rBreak, rCont, rDrop, rPar, rFor, gt, st, frz, gAdd, DL.gSub, gMul, gFdiv, gMod, gPow, gShr, gShl, gAnd, gNeg, gLt, gLe, gGt, gGe, gEq, gNe, okW, eqW, gAbs, gInt, gLen, wipeE, sgName, sgTup, sgCons, sgNil, rAsg, startE, List.length, rPk, gIsB, gNotB, isN, rIsN, rNotN, rMax2, rMin2, rNever, gBits, List.append_nil, rSto, rStoSet, rStoIf, rApp, rPop0, isOwn, rSl, rSlP, rNoPart, rPart, gCut, itL, gFld, rRaise, rMk0, rMakeK, rCnt, gCnt, gIx, gIsi, tyW, rIsX])
local macro_rules | `(tactic| walk_at "r") => `(tactic| (try walk_at "d"; try simp only [at0, at1, at2, at3, Option.some.injEq, exists_eq_left', true_and, and_true, Bool.not_eq_true', Bool.not_eq_false', decide_eq_true_eq, decide_eq_false_iff_not, List.append_nil, List.cons_append, List.nil_append]; try walk_at "d"; try simp only [at0, at1, at2, at3, Option.some.injEq, exists_eq_left', true_and, and_true, Bool.not_eq_true', Bool.not_eq_false', decide_eq_true_eq, decide_eq_false_iff_not]))
section
variable {P : Program} {w : World} {K : PySem.W.Frag} {mg : Str → Option Value} {base : Heap}
def sp__law_refused (cB : Addr) : SpD := fun ds q _ => ∃ (fs : List (Str × D)) (e0 : Int) (e1 : Nat) (yes : Bool) (n : Int), ds = [.ins cB fs, .tup [.int e0, .int e1], .int n] ∧ fs.lookup ("yes" : Str) = some (.bl yes) ∧
  ((e0 ≤ 0 ∧ n = 11) ∨ (0 < e0 ∧ yes = false ∧ n = 19)) ∧ q (.v (.bl true))
theorem sc__law_refused : FnScope ["answer", "share", "spot", "e"] ["answer", "share", "spot"] (defScope s__law_refused) := ⟨rfl, rfl, rfl, by decide +kernel, rfl, by decide +kernel, by decide +kernel⟩
theorem ok__law_refused {f : Addr} {fd : FuncData} {cB cBN cNS cG : Addr} (F : FunD K "_law_refused" "_law_refused" (defArgs s__law_refused) (defBody s__law_refused) (defScope s__law_refused) [] [] f fd)
    (c_from_where : Cal P w K mg base 4 "from_where" (sp_from_where cB cBN cNS) [] []) (c__law_only : CalE P w K mg base 1 "_law_only" (okOnly K cBN cNS) (sp__law_only cBN cNS)) (g_GrowError : mg "GrowError" = some (.ref cG))
    (eB : PySem.W.exmOne K (.ref cBN) (.ref cG) = some true) (eN : PySem.W.exmOne K (.ref cNS) (.ref cG) = some true) (xB : ExcC K cBN) (xN : ExcC K cNS) :
    FnOk P w K mg base (L2N.CX P w) 5 f fd ["answer", "share", "spot"] (lift K (sp__law_refused cB)) := by
  refine fn_okX F sc__law_refused (fun ds q x h => ?_) (fun cdv A outer s H E B x hx hv hr => ?_)
  rotate_left
  have suite : ∀ (a : Addr) (oe : Obj) (cls : Value) (d : Option Addr) (pn : List (Addr × Obj)) (p1 p2 p3 p4 p5 : Pos), L2N.Zn cls d oe → (∃ vs, oe.data = .fields vs) → (Pos.endLine p4 == Pos.endLine p4) = true →
      DSs0 ((cxOf (L2N.CX P w) P w K mg base ["answer", "share", "spot", "e"] "_law_refused" (defScope s__law_refused) f cdv A outer s H E).suite a ((a, oe) :: pn)) B [.Return (some (.Call (.Name "_law_only" p1) [.Name "e" p2, .Name "spot" p3] [] p4)) p5] (tRet fun σ H Q => tCons (tVar 3) (tCons (tVar 2) tNil) σ H fun vs H1 => ∀ o : Obj, L2N.Zn cls d o → (∃ fs, o.data = .fields fs) → liftE K (okOnly K cBN cNS) (sp__law_only cBN cNS) (a, o) vs H1 Q E0) (rRet (rCallE (okOnly K cBN cNS) (sp__law_only cBN cNS) a cls d (rCons (rVar 3) (rCons (rVar 2) rNil)))) := by
    intro a oe cls d pn p1 p2 p3 p4 p5 hz hf _
    exact DSs.d0 (dss_one (ds_ret (de_callE (X := (cxOf (L2N.CX P w) P w K mg base ["answer", "share", "spot", "e"] "_law_refused" (defScope s__law_refused) f cdv A outer s H E).suite a ((a, oe) :: pn)) c__law_only List.mem_cons_self rfl hz hf (roomS (hr.mono (by decide))) (da_cons (de_var 3) (da_cons (de_var 2) da_nil)))))
  refine ⟨_, _, d0_cons (ds_try_as (i := 3) (c := .ref cG) (tb := fun W => tDrop (tCallS (lift K (sp_from_where cB cBN cNS)) (WE W) (tCons (tVar 0) (tCons (tVar 1) tNil)))) (rb := fun xk => rDrop (rCallX xk (sp_from_where cB cBN cNS) (rCons (rVar 0) (rCons (rVar 1) rNil)))) rfl rfl sc__law_refused.nd rfl rfl ⟨by rfl, by decide, Or.inl g_GrowError⟩ hv
      (fun W xk pn xe hv' => DSs.d0 (dss_one (ds_expr (de_callX (c_from_where.mono (by decide)) hv' hr (da_cons (de_var 0) (da_cons (de_var 1) da_nil))))))
      (fun a oe cls d pn hz hf => suite a oe cls d pn _ _ _ _ _ hz hf (beq_self_eq_true _))) (d0_one (DS.d0 (ds_ret de_bl))), fun ds q h => ?_⟩
  rotate_left
  · obtain ⟨fs, e0, e1, yes, n, rfl, _⟩ := h
    rfl
  · obtain ⟨fs, e0, e1, yes, n, rfl, hy, hc, h⟩ := h
    clear suite
    show rSeq _ _ _ _
    dsimp only [rSeq, rTryAs, rDrop, rCallX, rCons, rNil, rVar, gt, startE, List.length, frz]
    rcases hc with ⟨h1, rfl⟩ | ⟨h1, rfl, rfl⟩
    · exact ⟨fs, e0, e1, yes, rfl, hy, .inl ⟨h1, true, eB, fun _ a d => ⟨⟨cBN, rfl, rfl, xB, .inl rfl⟩, 11, rfl, .inl ⟨rfl, rfl⟩, h⟩, (fun z => by cases z)⟩⟩
    · exact ⟨fs, e0, e1, false, rfl, hy, .inr (.inl ⟨h1, rfl, true, eN, fun _ a d => ⟨⟨cNS, rfl, rfl, xN, .inr rfl⟩, 19, rfl, .inr ⟨rfl, rfl⟩, h⟩, (fun z => by cases z)⟩)⟩
end
end Cl

set_option maxHeartbeats 2000000
set_option exponentiation.threshold 200000
namespace Cl
open PySem PySem.Spec L2 DL M
local macro_rules | `(tactic| walk_at "d") => `(tactic| dsimp only [rSeq, rSet, rUn, rVar, rMov, rC, rBin, rBinP', rBinP, rCall, rCons, rNil, rTup, rLst, rIf, rRet, rRetN, rVal, rTru, rNot, rAnd, rOr, rAndV, rOrV, gNot, rIfE, rNext, rBreak, rCont, rDrop, rPar, rFor, gt, st, frz, gAdd, DL.gSub, gMul, gFdiv, gMod, gPow, gShr, gShl, gAnd, gNeg, gLt, gLe, gGt, gGe, gEq, gNe, okW, eqW, gAbs, gInt, gLen, wipeE, sgName, sgTup, sgCons, sgNil, rAsg, startE, List.length, rPk, gIsB, gNotB, isN, rIsN, rNotN, rMax2, rMin2, rNever, gBits, List.append_nil, rSto, rStoSet, rStoIf, rApp, rPop0, isOwn, rSl, rSlP, rNoPart, rPart, gCut, itL, gFld, rRaise, rMk0, rMakeK, rCnt, gCnt, gIx, gIsi, tyW, rIsX])
local macro_rules | `(tactic| walk_at "r") => `(tactic| (try walk_at "d"; try simp only [at0, at1, at2, at3, Option.some.injEq, exists_eq_left', true_and, and_true, Bool.not_eq_true', Bool.not_eq_false', decide_eq_true_eq, decide_eq_false_iff_not, List.append_nil, List.cons_append, List.nil_append]; try walk_at "d"; try simp only [at0, at1, at2, at3, Option.some.injEq, exists_eq_left', true_and, and_true, Bool.not_eq_true', Bool.not_eq_false', decide_eq_true_eq, decide_eq_false_iff_not]))
def gDc (ds es : List D) : List D := [ds.getD 0 .non, .non, .non, .non, es.getD 0 .non, es.getD 1 .non]
section
variable {P : Program} {w : World} {K : PySem.W.Frag} {mg : Str → Option Value} {base : Heap}
theorem sc_law : FnScope ["script", "store", "worlds", "answers", "none_answer", "low_share", "told", "spot", "world", "found", "kept", "other", "more", "near", "less"] ["script"] (defScope s_law) := ⟨rfl, rfl, rfl, by decide +kernel, rfl, by decide +kernel, by decide +kernel⟩
structure FsOk (fs : List (Str × D)) (k0 k1 s0 s1 : Nat) : Prop where
  y : fs.lookup ("yes" : Str) = some (.bl true)
  k : fs.lookup ("k" : Str) = some (Fr k0 k1)
  s : fs.lookup ("sigma" : Str) = some (Fr s0 s1)
  ch : fs.lookup ("choice" : Str) = some .non
  c : fs.lookup ("c" : Str) = some .non
theorem fsOk (p : D) (k0 k1 s0 s1 : Nat) : FsOk (namesB.zip [.bl true, p, Fr k0 k1, Fr s0 s1, .non, .non]) k0 k1 s0 s1 := ⟨by rfl, by rfl, by rfl, by rfl, by rfl⟩
theorem fsNo : (namesB.zip (gDc [D.bl false] [D.tup [D.int 0, D.tup [D.tup [D.int 1]]], D.tup [D.int 1]])).lookup ("yes" : Str) = some (.bl false) := by rfl
theorem line30 {n : Nat} (h : n ≤ 30) : n ≤ sizeLine := by rw [sizeLine_eq]; omega

theorem ok_law {f : Addr} {fd : FuncData} (F : FunD K "law" "law" (defArgs s_law) (defBody s_law) (defScope s_law) [] [] f fd) {cB cBN cNS : Addr} (hB : Cls K cB) (nB : ∀ f ∈ namesB, NoAttr K cB f)
    (c_from_where : Cal P w K mg base 4 "from_where" (sp_from_where cB cBN cNS) [] []) (c__law_least : Cal P w K mg base 4 "_law_least" sp__law_least [] []) (c__law_frac : Cal P w K mg base 2 "_law_frac" sp__law_frac [] []) (c__law_gcd : Cal P w K mg base 1 "_law_gcd" sp__law_gcd [] []) (c__law_like : Cal P w K mg base 1 "_law_like" sp__law_like [] []) (c__law_refused : Cal P w K mg base 5 "_law_refused" (sp__law_refused cB) [] []) (c__law_take : Cal P w K mg base 1 "_law_take" sp__law_take [] []) (c__law_pick : Cal P w K mg base 2 "_law_pick" sp__law_pick [] []) (c__law_made : Cal P w K mg base 3 "_law_made" (sp__law_made cB) [] []) (c__law_world : Cal P w K mg base 4 "_law_world" sp__law_world [] []) (c__law_store : Cal P w K mg base 1 "_law_store" sp__law_store [] []) (k_Beneath_choice_c : CalK P w K mg base 1 "Beneath" cB namesB 1 ["choice", "c"] gDc) (k_Beneath_k_sigma : CalK P w K mg base 1 "Beneath" cB namesB 1 ["k", "sigma"] gD2) :
    FnOk P w K mg base CX0 6 f fd ["script"] (spLaw K) := by
  obtain ⟨gv1, k_Beneath_choice_c⟩ := k_Beneath_choice_c.v
  obtain ⟨gv2, k_Beneath_k_sigma⟩ := k_Beneath_k_sigma.v
  refine fn_law (n := 13) (k := 5) F sc_law rfl (fun cdv A outer s H E B hr => ⟨_, _, (ds_set (i := 1) sc_law.nd rfl (by first | exact Or.inl rfl | exact Or.inr rfl) (de_call (c__law_store.mono (by decide)) hr (da_cons (de_var 0) da_nil))), fun d hd => ?_⟩) (fun cdv A outer s H E hr => ?_)
  · walk_at "d"
    exact ⟨d, rfl, hd, fun cells hc => ⟨cells, 0, 0, 0, 17574, hc, by decide, rfl⟩⟩
  suffices g : ∃ t r, (∀ B : Bs, DSs (cxOf CX0 P w K mg base ["script", "store", "worlds", "answers", "none_answer", "low_share", "told", "spot", "world", "found", "kept", "other", "more", "near", "less"] "law" (defScope s_law) f cdv A outer s H E).nox B (defBody s_law).tail t r) ∧ ∀ d, okScript d → r kLaw1 (some (.v d) :: some (.v .sto) :: List.replicate 13 none) by
    obtain ⟨t, r, h1, h2⟩ := g
    exact ⟨t, (h1 ⟨H, fun _ => False, fun _ _ _ _ => False, fun _ _ => False, none⟩).ps, fun B => ⟨r, h1 B, h2⟩⟩
  refine ⟨_, _, fun B => (dss_cons (ds_set (i := 2) sc_law.nd rfl (by first | exact Or.inl rfl | exact Or.inr rfl) (de_lst (da_cons (de_call (c__law_world.mono (by decide)) hr (da_cons (de_var 1) da_nil)) (da_cons (de_call (c__law_world.mono (by decide)) hr (da_cons (de_var 1) da_nil)) da_nil))))
          (dss_hide (dss_cons (ds_setLc (i := 3) (own := [("world", 8)]) rfl sc_law.nd rfl rfl (sw_true rfl rfl rfl (by decide +kernel)) (di_seq (de_var 2)) (blkOk_by (own := [("world", 8)]) (N := ["script", "store", "worlds", "answers", "none_answer", "low_share", "told", "spot", "world", "found", "kept", "other", "more", "near", "less"]) (sc := defScope s_law) (by decide +kernel)) (fun _ _ _ _ _ => (dg_name (i := 8) sc_law.nd rfl (by first | exact Or.inl rfl | exact Or.inr rfl))) (keeps_name (by decide)) (fun _ _ _ _ _ => dts_nil) (fun _ _ _ _ _ => (de_callB K rfl (c__law_made.mono (by decide)) hr (da_cons (de_var 1) (da_cons (de_var 8) da_nil)))))
          (dss_hide (dss_cons (ds_set (i := 4) sc_law.nd rfl (by first | exact Or.inl rfl | exact Or.inr rfl) (de_makeKB k_Beneath_choice_c (hr.mono (by decide)) (da_cons de_bl da_nil) (dk_cons (de_tup (da_cons de_int (da_cons (de_tup (da_cons (de_tup (da_cons de_int da_nil)) da_nil)) da_nil))) (dk_cons (de_tup (da_cons de_int da_nil)) dk_nil))))
          (dss_hide (dss_cons (ds_set (i := 5) sc_law.nd rfl (by first | exact Or.inl rfl | exact Or.inr rfl) (de_call (c__law_pick.mono (by decide)) hr (da_cons (de_var 1) (da_cons (de_lst (da_cons (de_tup (da_cons de_int (da_cons de_int da_nil))) (da_cons (de_tup (da_cons (de_neg de_int) (da_cons de_int da_nil))) (da_cons (de_tup (da_cons (de_neg de_int) (da_cons de_int da_nil))) (da_cons (de_tup (da_cons (de_neg de_int) (da_cons de_int da_nil))) da_nil))))) da_nil))))
          (dss_hide (dss_cons (ds_if (DW.dt (dw_or (dt_not (dt_val (de_call (c__law_refused.mono (by decide)) hr (da_cons (de_var 4) (da_cons (de_tup (da_cons de_int (da_cons (de_add de_int (de_call (c__law_take.mono (by decide)) hr (da_cons (de_var 1) (da_cons de_int da_nil)))) da_nil))) (da_cons de_int da_nil)))))) (dw_or1 (dt_not (dt_val (de_call (c__law_refused.mono (by decide)) hr (da_cons (de_var 4) (da_cons (de_var 5) (da_cons de_int da_nil))))))))) (dss_one (ds_ret de_bl)) dss_nil)
          (dss_hide (dss_cons (ds_set (i := 6) sc_law.nd rfl (by first | exact Or.inl rfl | exact Or.inr rfl) (de_lst da_nil))
          (dss_hide (dss_cons (ds_for PassesOwn.never rfl (di_seq (de_lst (da_cons de_int (da_cons de_int (da_cons de_int da_nil))))) (dg_name (i := 7) sc_law.nd rfl (by first | exact Or.inl rfl | exact Or.inr rfl)) (dss_cons (ds_set (i := 8) sc_law.nd rfl (by first | exact Or.inl rfl | exact Or.inr rfl) (de_ix (de_var 2) (de_var 7)))
          (dss_hide (dss_cons (ds_set (i := 9) sc_law.nd rfl (by first | exact Or.inl rfl | exact Or.inr rfl) (de_call (c_from_where.mono (by decide)) hr (da_cons (de_ix (de_var 3) (de_var 7)) (da_cons (de_ix (de_var 8) de_int) da_nil))))
          (dss_hide (dss_cons (ds_if (DW.dt (dw_or (dt_not (dt_val (de_call (c__law_least.mono (by decide)) hr (da_cons (de_var 8) (da_cons (de_ix (de_var 8) de_int) (da_cons (de_var 9) da_nil)))))) (dw_or1 (DW.dt (dw_and (dt_gt (de_ix (de_var 8) de_int) de_int) (dw_and1 (dt_ne hr.units (de_var 9) (de_ix (de_var 8) de_int)))))))) (dss_one (ds_ret de_bl)) dss_nil)
          (dss_hide (dss_cons (ds_expr (de_app 6 (pv 6) (de_var 9)))
          (dss_hide (dss_cons (ds_if (dt_not (dt_val (de_call (c__law_refused.mono (by decide)) hr (da_cons (de_ix (de_var 3) (de_var 7)) (da_cons (de_var 5) (da_cons de_int da_nil)))))) (dss_one (ds_ret de_bl)) dss_nil)
          (dss_hide (dss_cons (ds_set (i := 10) sc_law.nd rfl (by first | exact Or.inl rfl | exact Or.inr rfl) (de_lst (da_cons (de_fld (de_ix (de_var 3) (de_var 7))) (da_cons (de_fld (de_ix (de_var 3) (de_var 7))) (da_cons (de_fld (de_ix (de_var 3) (de_var 7))) (da_cons (de_fld (de_ix (de_var 3) (de_var 7))) (da_cons (de_fld (de_ix (de_var 3) (de_var 7))) da_nil)))))))
          (dss_hide (dss_cons (ds_if (dt_not (dt_val (de_call (c__law_like.mono (by decide)) hr (da_cons (de_var 10) (da_cons (de_lst (da_cons de_bl (da_cons (de_ix (de_var 8) de_int) (da_cons (de_ix (de_var 8) de_int) (da_cons de_non (da_cons de_non da_nil)))))) da_nil))))) (dss_one (ds_ret de_bl)) dss_nil)
          (dss_hide (dss_cons (ds_set (i := 11) sc_law.nd rfl (by first | exact Or.inl rfl | exact Or.inr rfl) (de_tup (da_cons (de_add (de_ix (de_ix (de_var 8) de_int) de_int) de_int) (da_cons (de_ix (de_ix (de_var 8) de_int) de_int) da_nil))))
          (dss_hide (dss_cons (ds_if (DW.dt (dw_and (dt_le (de_ix (de_var 11) de_int) de_int) (dw_and1 (dt_eq hr.units (de_call (c__law_gcd.mono (by decide)) hr (da_cons (de_ix (de_var 11) de_int) (da_cons (de_ix (de_var 11) de_int) da_nil))) de_int)))) (dss_cons (ds_set (i := 12) sc_law.nd rfl (by first | exact Or.inl rfl | exact Or.inr rfl) (de_call (c_from_where.mono (by decide)) hr (da_cons (de_ix (de_var 3) (de_var 7)) (da_cons (de_var 11) da_nil))))
          (dss_hide (dss_one (ds_if (DW.dt (dw_or (dt_not (dt_val (de_call (c__law_least.mono (by decide)) hr (da_cons (de_var 8) (da_cons (de_var 11) (da_cons (de_var 12) da_nil)))))) (dw_or1 (dt_gt (de_var 12) (de_var 9))))) (dss_one (ds_ret de_bl)) dss_nil)))) dss_nil)
          (dss_hide (dss_one (ds_if (DW.dt (dw_and (dt_gt (de_ix (de_var 8) de_int) de_int) (dw_and1 (dt_lt (de_ix (de_ix (de_var 8) de_int) de_int) de_int)))) (dss_cons (ds_set (i := 13) sc_law.nd rfl (by first | exact Or.inl rfl | exact Or.inr rfl) (de_call (c__law_frac.mono (by decide)) hr (da_cons (de_mul (de_ix (de_ix (de_var 8) de_int) de_int) de_int) (da_cons (de_mul (de_ix (de_ix (de_var 8) de_int) de_int) de_int) da_nil))))
          (dss_hide (dss_cons (ds_set (i := 14) sc_law.nd rfl (by first | exact Or.inl rfl | exact Or.inr rfl) (de_call (c_from_where.mono (by decide)) hr (da_cons (de_ix (de_var 3) (de_var 7)) (da_cons (de_var 13) da_nil))))
          (dss_hide (dss_one (ds_if (DW.dt (dw_or (dt_not (dt_val (de_call (c__law_least.mono (by decide)) hr (da_cons (de_var 8) (da_cons (de_var 13) (da_cons (de_var 14) da_nil)))))) (dw_or1 (dt_le (de_var 14) (de_ix (de_var 8) de_int))))) (dss_one (ds_ret de_bl)) dss_nil)))))) dss_nil)))))))))))))))))))))
          (dss_hide (dss_one (ds_ret (de_and (de_eq hr.units (de_ixP 6 (pv 6) de_int) (de_ixP 6 (pv 6) de_int)) (de_one (de_eq hr.units (de_call (c_from_where.mono (by decide)) hr (da_cons (de_makeKB k_Beneath_k_sigma (hr.mono (by decide)) (da_cons de_bl da_nil) (dk_cons (de_tup (da_cons de_int (da_cons de_int da_nil))) (dk_cons (de_ix (de_ix (de_var 2) de_int) de_int) dk_nil))) (da_cons (de_tup (da_cons de_int (da_cons de_int da_nil))) da_nil))) de_int))))))))))))))))))), fun d hd => ?_⟩
  generalize hBODY : rSeq (rSet 8 (rBin gIx (rVar 2) (rVar 7))) _ = BODY
  have turn : ∀ (Kd : KD) (i : Int) (fs : List (Str × D)) (k0 k1 s0 s1 e0 e1 lv : Nat) (l : List D) (WS AS : List D) (wA : W) (x8 x9 x10 x11 x12 x13 x14 : Option W) {c0 : Int} {c1 : Nat} {fsN : List (Str × D)},
      L2.atI WS i = some (.lst (WorldD k0 k1 s0 s1 e0 e1 lv)) → L2.atI AS i = some (.ins cB fs) → WorldOk k0 k1 s0 s1 e0 e1 lv → FsOk fs k0 k1 s0 s1 → l.length < 10 → (wA = .o AS ∨ wA = .v (.lst AS)) → c0 ≤ 0 →
      (∀ n : Nat, FwLeast k0 k1 e0 e1 s0 s1 n → ∀ y8 y9 y10 y11 y12 y13 y14, Kd.nx [some (.v d), some (.v .sto), some (.v (.lst WS)), some (.v (.lst AS)), some (.v (.ins cB fsN)), some (.v (.tup [.int c0, .int c1])), some (.o (l ++ [.int n])), some (.v (.int i)), y8, y9, y10, y11, y12, y13, y14]) →
      BODY Kd [some (.v d), some (.v .sto), some (.v (.lst WS)), some wA, some (.v (.ins cB fsN)), some (.v (.tup [.int c0, .int c1])), some (.o l), some (.v (.int i)), x8, x9, x10, x11, x12, x13, x14] := by
    intro Kd i fs k0 k1 s0 s1 e0 e1 lv l WS AS wA x8 x9 x10 x11 x12 x13 x14 c0 c1 fsN hw ha ok fo hl hA hc0 fin
    rw [← hBODY]
    clear hBODY
    generalize hT : hide _ = T
    walk_at "r"
    refine ⟨_, hw, ?_⟩
    rw [← hT, hide_eq]
    clear hT T
    generalize hT : hide _ = T
    have st2 : ∀ n : Nat, FwLeast k0 k1 e0 e1 s0 s1 n → T Kd [some (.v d), some (.v .sto), some (.v (.lst WS)), some (.v (.lst AS)), some (.v (.ins cB fsN)), some (.v (.tup [.int c0, .int c1])), some (.o l), some (.v (.int i)), some (.v (.lst (WorldD k0 k1 s0 s1 e0 e1 lv))), some (.v (.int n)), x10, x11, x12, x13, x14] := by
      intro n hn
      rw [← hT, hide_eq]
      clear hT T
      generalize hT : hide _ = T
      --TURN
      walk_at "r"
      have hfw := fwOk_of ok e0 ok.f3.1 ok.f3.2 (by omega)
      refine ⟨k0, k1, s0, s1, e0, e1, n, _, _, rfl, hfw, hn, ?_⟩
      dsimp only
      suffices go : T Kd [some (.v d), some (.v .sto), some (.v (.lst WS)), some (.v (.lst AS)), some (.v (.ins cB fsN)), some (.v (.tup [.int c0, .int c1])), some (.o l), some (.v (.int i)), some (.v (.lst (WorldD k0 k1 s0 s1 e0 e1 lv))), some (.v (.int n)), x10, x11, x12, x13, x14] from
        ⟨(fun z => nomatch z), fun _ => ⟨fun hl => ⟨fun z => absurd (by rw [level_eq ok (by omega) hn]) z, fun _ => go⟩, fun _ => ⟨(fun z => nomatch z), fun _ => go⟩⟩⟩
      rw [← hT, hide_eq]
      clear hT T
      generalize hT : hide _ = T
      walk_at "r"
      refine ⟨Nat.lt_of_lt_of_le hl (line30 (by decide)), ?_⟩
      rw [← hT, hide_eq]
      clear hT T
      generalize hT : hide _ = T
      walk_at "r"
      refine ⟨_, ha, fs, c0, c1, true, 11, rfl, fo.y, .inl ⟨hc0, rfl⟩, ?_⟩
      dsimp only
      refine ⟨(fun z => nomatch z), fun _ => ?_⟩
      rw [← hT, hide_eq]
      clear hT T
      generalize hT : hide _ = T
      walk_at "r"
      refine ⟨_, ha, hB, nB _ (by decide), _, fo.y, _, ha, hB, nB _ (by decide), _, fo.k, _, ha, hB, nB _ (by decide), _, fo.s, _, ha, hB, nB _ (by decide), _, fo.ch, _, ha, hB, nB _ (by decide), _, fo.c, line30 (by decide), ?_⟩
      rw [← hT, hide_eq]
      clear hT T
      generalize hT : hide _ = T
      walk_at "r"
      refine ⟨line30 (by decide), [.bl true, Fr k0 k1, Fr s0 s1, .non, .non], rfl, rfl, by simp [sizeDs, sizeD], ?_⟩
      dsimp only
      refine ⟨(fun z => nomatch z), fun _ => ?_⟩
      rw [← hT, hide_eq]
      clear hT T
      generalize hT : hide _ = T
      walk_at "r"
      refine ⟨two_le, ?_⟩
      rw [← hT, hide_eq]
      clear hT T
      generalize hI : hide _ = I
      generalize hT : hide _ = T
      have st9 : ∀ y12 y13 y14, T Kd [some (.v d), some (.v .sto), some (.v (.lst WS)), some (.v (.lst AS)), some (.v (.ins cB fsN)), some (.v (.tup [.int c0, .int c1])), some (.o (l ++ [.int n])), some (.v (.int i)), some (.v (.lst (WorldD k0 k1 s0 s1 e0 e1 lv))), some (.v (.int n)), some (.v (.lst [.bl true, Fr k0 k1, Fr s0 s1, .non, .non])), some (.v (.tup [.int (e0 + 1), .int e1])), y12, y13, y14] := by
        intro y12 y13 y14
        clear hI I
        rw [← hT, hide_eq]
        clear hT T
        generalize hI : hide _ = I
        walk_at "r"
        have x1 : (e0 : Int) * 999999 = ((e0 * 999999 : Nat) : Int) := by rw [Int.natCast_mul]; rfl
        have x2 : (e1 : Int) * 1000000 = ((e1 * 1000000 : Nat) : Int) := by rw [Int.natCast_mul]; rfl
        rw [x1, x2]
        refine ⟨fun hlv => ⟨fun h1 => ⟨.inr (.inl ⟨by decide, by decide⟩), .inr (.inl ⟨by decide, by decide⟩), e0 * 999999, e1 * 1000000, rfl, Nat.mul_pos ok.f3.1 (by decide), Nat.mul_pos ok.f4.1 (by decide), ?_, ?_⟩, fun _ => fin n hn _ _ _ _ _ _ _⟩, fun _ => ⟨(fun z => nomatch z), fun _ => fin n hn _ _ _ _ _ _ _⟩⟩
        · have := log2_of (n := e1 * 1000000) (k := 60) (by have := ok.f4.2; omega) (by decide)
          omega
        have hl0 : 0 < lv := by omega
        rw [← hI, hide_eq]
        clear hI I
        generalize hI : hide _ = I
        walk_at "r"
        refine ⟨_, ha, fs, _, _, true, rfl, fo.y, .inr (.inr ⟨rfl, k0, k1, _, s0, s1, rfl, fo.k, fo.s, fwOk_near ok hl0, fun m hm => ?_⟩)⟩
        rw [← hI, hide_eq]
        clear hI I
        walk_at "r"
        refine ⟨k0, k1, s0, s1, _, _, m, _, _, rfl, fwOk_near ok hl0, hm, ?_⟩
        dsimp only
        have hml := less_gt ok hl0 hm
        exact ⟨(fun z => nomatch z), fun _ => ⟨fun z => absurd z (by omega), fun _ => fin n hn _ _ _ _ _ _ _⟩⟩
      clear hT
      walk_at "r"
      have ec : (e0 : Int) + 1 = ((e0 + 1 : Nat) : Int) := by omega
      rw [ec] at st9 ⊢
      refine ⟨fun hle => ⟨e0 + 1, e1, rfl, trivial, fun _ => ⟨_, ha, fs, ((e0 + 1 : Nat) : Int), e1, true, rfl, fo.y, .inr (.inr ⟨rfl, k0, k1, e0 + 1, s0, s1, rfl, fo.k, fo.s, fwOk_of ok (e0 + 1) (by omega) (by omega) (by omega), fun m hm => ?_⟩)⟩, fun _ => st9 _ _ _⟩, fun _ => ⟨(fun z => nomatch z), fun _ => st9 _ _ _⟩⟩
      rw [← hI, hide_eq]
      clear hI I
      walk_at "r"
      refine ⟨k0, k1, s0, s1, e0 + 1, e1, m, _, _, rfl, fwOk_of ok (e0 + 1) (by omega) (by omega) (by omega), hm, ?_⟩
      dsimp only
      have hmn := more_le (Nat.mul_pos ok.f1.1 ok.f4.1) (Nat.le_succ e0) hn hm
      refine ⟨(fun z => nomatch z), fun _ => ⟨fun z => absurd z (by omega), fun _ => st9 _ _ _⟩⟩
    clear hT
    rcases hA with rfl | rfl
    · walk_at "r"
      exact ⟨_, ha, fs, e0, e1, true, rfl, fo.y, .inr (.inr ⟨rfl, k0, k1, e0, s0, s1, rfl, fo.k, fo.s, fwOk_of ok e0 ok.f3.1 ok.f3.2 (by omega), fun n hn => st2 n hn⟩)⟩
    · walk_at "r"
      exact ⟨_, ha, fs, e0, e1, true, rfl, fo.y, .inr (.inr ⟨rfl, k0, k1, e0, s0, s1, rfl, fo.k, fo.s, fwOk_of ok e0 ok.f3.1 ok.f3.2 (by omega), fun n hn => st2 n hn⟩)⟩
  clear hBODY
  generalize hT : hide _ = T
  dsimp only [List.replicate]
  walk_at "r"
  refine ⟨rfl, fun k0 k1 s0 s1 e0 e1 lv ok => ?_⟩
  walk_at "d"
  refine ⟨rfl, fun k0' k1' s0' s1' e0' e1' lv' ok' => ?_⟩
  walk_at "d"
  refine ⟨two_le, ?_⟩
  rw [← hT, hide_eq]
  clear hT T
  generalize hT : hide _ = T
  walk_at "d"
  unfold rLc rSeqIt
  dsimp only [List.map]
  walk_at "r"
  refine ⟨_, rfl, ?_⟩
  unfold lcD rYes
  walk_at "d"
  refine ⟨fun _ => ⟨s0, s1, _, _, _, rfl, fun p0 => ?_⟩, fun z => nomatch z⟩
  unfold lcD
  walk_at "d"
  refine ⟨fun _ => ⟨s0', s1', _, _, _, rfl, fun p1 => ?_⟩, fun z => nomatch z⟩
  unfold lcD
  walk_at "d"
  rw [← hT, hide_eq]
  clear hT T
  generalize hT : hide _ = T
  walk_at "r"
  have fo0 := fsOk p0 k0 k1 s0 s1
  have fo1 := fsOk p1 k0' k1' s0' s1'
  have foN := fsNo
  generalize namesB.zip (gDc [D.bl false] [D.tup [D.int 0, D.tup [D.tup [D.int 1]]], D.tup [D.int 1]]) = fsN at *
  generalize namesB.zip [D.bl true, p0, Fr k0 k1, Fr s0 s1, D.non, D.non] = fs0 at *
  generalize namesB.zip [D.bl true, p1, Fr k0' k1', Fr s0' s1', D.non, D.non] = fs1 at *
  refine ⟨line30 (by decide), line30 (by decide), line30 (by decide), line30 (by decide), ?_⟩
  rw [← hT, hide_eq]
  clear hT T
  generalize hT : hide _ = T
  walk_at "r"
  refine ⟨line30 (by decide), line30 (by decide), line30 (by decide), line30 (by decide), line30 (by decide), _, rfl, (fun z => nomatch z), (by show 4 < 1000; decide), fun dl hdl => ?_⟩
  have hlow : ∃ (c0 : Int) (c1 : Nat), dl = .tup [.int c0, .int c1] ∧ c0 ≤ 0 := by
    rcases List.mem_cons.mp hdl with e | hdl
    · exact ⟨0, 1, e, by decide⟩
    rcases List.mem_cons.mp hdl with e | hdl
    · exact ⟨-1, 3, e, by decide⟩
    rcases List.mem_cons.mp hdl with e | hdl
    · exact ⟨-999999999999, 1, e, by decide⟩
    · exact ⟨-1, 999999999999, List.mem_singleton.mp hdl, by decide⟩
  obtain ⟨c0, c1, rfl, hc0⟩ := hlow
  clear hdl
  rw [← hT, hide_eq]
  clear hT T
  generalize hT : hide _ = T
  walk_at "r"
  refine ⟨9, rfl, by decide, fun r1 hr1 => ?_⟩
  walk_at "d"
  rw [show (1 : Int) + (r1 : Int) = ((1 + r1 : Nat) : Int) by omega]
  refine ⟨line30 (by decide), fsN, 1, 1 + r1, false, 19, rfl, foN, .inr ⟨by decide, rfl, rfl⟩, ?_⟩
  walk_at "d"
  refine ⟨(fun z => nomatch z), fun _ => ⟨fsN, c0, c1, false, 11, rfl, foN, .inl ⟨hc0, rfl⟩, ?_⟩⟩
  walk_at "d"
  refine ⟨(fun z => nomatch z), fun _ => ?_⟩
  rw [← hT, hide_eq]
  clear hT T
  generalize hT : hide _ = T
  walk_at "d"
  refine ⟨line30 (by decide), ?_⟩
  rw [← hT, hide_eq]
  clear hT T
  generalize hT : hide _ = T
  unfold rFor rSeqIt
  walk_at "d"
  refine ⟨line30 (by decide), _, rfl, ?_⟩
  unfold forD
  walk_at "d"
  refine turn _ 0 fs0 k0 k1 s0 s1 e0 e1 lv [] _ _ _ _ _ _ _ _ _ _ (at0 _ _) (at0 _ _) ok fo0 (by decide) (.inl rfl) hc0 fun n0 hn0 y8 y9 y10 y11 y12 y13 y14 => ?_
  unfold forD
  walk_at "d"
  refine turn _ 1 fs1 k0' k1' s0' s1' e0' e1' lv' [D.int n0] _ _ _ _ _ _ _ _ _ _ (at1 _ _ _) (at1 _ _ _) ok' fo1 (by show 1 < 10; decide) (.inr rfl) hc0 fun n1 hn1 y8 y9 y10 y11 y12 y13 y14 => ?_
  unfold forD
  walk_at "d"
  refine turn _ 0 fs0 k0 k1 s0 s1 e0 e1 lv [D.int n0, D.int n1] _ _ _ _ _ _ _ _ _ _ (at0 _ _) (at0 _ _) ok fo0 (by show 2 < 10; decide) (.inr rfl) hc0 fun n2 hn2 y8 y9 y10 y11 y12 y13 y14 => ?_
  unfold forD
  walk_at "d"
  rw [← hT, hide_eq]
  clear hT T
  walk_at "r"
  have e02 : n0 = n2 := Least.eq hn0 hn2
  subst e02
  rw [show decide ((n0 : Int) = (n0 : Int)) = true from decide_eq_true rfl]
  obtain ⟨lok, lone⟩ := last_ok ok
  refine ⟨rfl, rfl, line30 (by decide), line30 (by decide), _, 1, 9, true, rfl, by rfl, .inr (.inr ⟨rfl, 1, 9, 1, s0, s1, rfl, by rfl, by rfl, lok, fun n hn => ?_⟩)⟩
  have := lone n hn
  subst this
  exact ⟨trivial, rfl⟩
end
end Cl

set_option maxHeartbeats 0
namespace Cl
open PySem PySem.Spec PyProof.Rows L2 DL M
def d_common_divisor : He.DefD := ⟨("common_divisor", none), "common_divisor", "common_divisor", defArgs s_common_divisor, defBody s_common_divisor, defScope s_common_divisor, [], []⟩
def d_frac : He.DefD := ⟨("frac", none), "frac", "frac", defArgs s_frac, defBody s_frac, defScope s_frac, [.int 1], []⟩
def d_over : He.DefD := ⟨("over", none), "over", "over", defArgs s_over, defBody s_over, defScope s_over, [], []⟩
def d_ceil_of : He.DefD := ⟨("ceil_of", none), "ceil_of", "ceil_of", defArgs s_ceil_of, defBody s_ceil_of, defScope s_ceil_of, [], []⟩
def d_raised : He.DefD := ⟨("raised", none), "raised", "raised", defArgs s_raised, defBody s_raised, defScope s_raised, [], []⟩
def d_root_down : He.DefD := ⟨("root_down", none), "root_down", "root_down", defArgs s_root_down, defBody s_root_down, defScope s_root_down, [], []⟩
def d_root_up : He.DefD := ⟨("root_up", none), "root_up", "root_up", defArgs s_root_up, defBody s_root_up, defScope s_root_up, [], []⟩
def d_from_where : He.DefD := ⟨("from_where", none), "from_where", "from_where", defArgs s_from_where, defBody s_from_where, defScope s_from_where, [], []⟩
def d__law_store : He.DefD := ⟨("_law_store", none), "_law_store", "_law_store", defArgs s__law_store, defBody s__law_store, defScope s__law_store, [], []⟩
def d__law_take : He.DefD := ⟨("_law_take", none), "_law_take", "_law_take", defArgs s__law_take, defBody s__law_take, defScope s__law_take, [], []⟩
def d__law_chance : He.DefD := ⟨("_law_chance", none), "_law_chance", "_law_chance", defArgs s__law_chance, defBody s__law_chance, defScope s__law_chance, [], []⟩
def d__law_pick : He.DefD := ⟨("_law_pick", none), "_law_pick", "_law_pick", defArgs s__law_pick, defBody s__law_pick, defScope s__law_pick, [], []⟩
def d__law_gcd : He.DefD := ⟨("_law_gcd", none), "_law_gcd", "_law_gcd", defArgs s__law_gcd, defBody s__law_gcd, defScope s__law_gcd, [], []⟩
def d__law_frac : He.DefD := ⟨("_law_frac", none), "_law_frac", "_law_frac", defArgs s__law_frac, defBody s__law_frac, defScope s__law_frac, [], []⟩
def d__law_mul : He.DefD := ⟨("_law_mul", none), "_law_mul", "_law_mul", defArgs s__law_mul, defBody s__law_mul, defScope s__law_mul, [], []⟩
def d__law_div : He.DefD := ⟨("_law_div", none), "_law_div", "_law_div", defArgs s__law_div, defBody s__law_div, defScope s__law_div, [], []⟩
def d__law_pow : He.DefD := ⟨("_law_pow", none), "_law_pow", "_law_pow", defArgs s__law_pow, defBody s__law_pow, defScope s__law_pow, [], []⟩
def d__law_only : He.DefD := ⟨("_law_only", none), "_law_only", "_law_only", defArgs s__law_only, defBody s__law_only, defScope s__law_only, [], []⟩
def d__law_like : He.DefD := ⟨("_law_like", none), "_law_like", "_law_like", defArgs s__law_like, defBody s__law_like, defScope s__law_like, [], []⟩
def d__law_fraction : He.DefD := ⟨("_law_fraction", none), "_law_fraction", "_law_fraction", defArgs s__law_fraction, defBody s__law_fraction, defScope s__law_fraction, [], []⟩
def d__law_world : He.DefD := ⟨("_law_world", none), "_law_world", "_law_world", defArgs s__law_world, defBody s__law_world, defScope s__law_world, [], []⟩
def d__law_least : He.DefD := ⟨("_law_least", none), "_law_least", "_law_least", defArgs s__law_least, defBody s__law_least, defScope s__law_least, [], []⟩
def d__law_refused : He.DefD := ⟨("_law_refused", none), "_law_refused", "_law_refused", defArgs s__law_refused, defBody s__law_refused, defScope s__law_refused, [], []⟩
def d__law_made : He.DefD := ⟨("_law_made", none), "_law_made", "_law_made", defArgs s__law_made, defBody s__law_made, defScope s__law_made, [], []⟩
def d_law : He.DefD := ⟨("law", none), "law", "law", defArgs s_law, defBody s_law, defScope s_law, [], []⟩
def d_init : He.DefD := ⟨("Beneath", some "__init__"), "__init__", "Beneath.__init__", defArgs s_init, defBody s_init, defScope s_init, [], [("papers", .non), ("k", .non), ("sigma", .non), ("choice", .non), ("c", .non)]⟩
def fn : List He.DefD := [d_init, d_common_divisor, d_frac, d_over, d_ceil_of, d_raised, d_root_down, d_root_up, d_from_where, d__law_store, d__law_take, d__law_chance, d__law_pick, d__law_gcd, d__law_frac, d__law_mul, d__law_div, d__law_pow, d__law_only, d__law_like, d__law_fraction, d__law_world, d__law_least, d__law_refused, d__law_made, d_law]
def fa0 : List He.Fa := [.glo "common_divisor", .glo "frac", .glo "over", .glo "ceil_of", .glo "raised", .glo "root_down", .glo "root_up", .glo "from_where", .glo "_law_store", .glo "_law_take", .glo "_law_chance", .glo "_law_pick", .glo "_law_gcd", .glo "_law_frac", .glo "_law_mul", .glo "_law_div", .glo "_law_pow", .glo "_law_only"]
def fa1 : List He.Fa := [.glo "_law_like", .glo "_law_fraction", .glo "_law_world", .glo "_law_least", .glo "_law_refused", .glo "_law_made", .glo "law", .glo "GrowError", .glo "BadText", .glo "BadName", .glo "BadCost", .glo "BadLaw", .glo "BadPoint", .glo "EmptyRoom", .glo "BadWork", .glo "NoPower", .glo "BadFact", .glo "Clash"]
def fa2 : List He.Fa := [.glo "Ring", .glo "BadNumber", .glo "BadRow", .glo "TooMany", .glo "TooFar", .glo "TooWide", .glo "NeedsPoint", .glo "NotGrowing", .glo "NoSeat", .glo "NoSuch", .glo "Held", .glo "Beneath", .free "ValueError", .free "abs", .free "bool", .free "int", .free "isinstance", .free "len"]
def fa3 : List He.Fa := [.free "list", .free "max", .free "range", .free "str", .free "tuple", .int "LEADING_BITS" 32, .cls "Beneath", .mkr "Beneath", .noat "Beneath" "yes", .noat "Beneath" "papers", .noat "Beneath" "k", .noat "Beneath" "sigma", .noat "Beneath" "choice", .noat "Beneath" "c", .exc "BadNumber", .exc "NoSuch", .exm "BadNumber" "GrowError" true, .exm "NoSuch" "GrowError" true]
def fa : List He.Fa := fa0 ++ fa1 ++ fa2 ++ fa3
def loose0 : List PySem.Str := ["GrowError", "BadText", "BadName", "BadCost", "BadLaw", "BadPoint", "EmptyRoom", "BadWork", "NoPower", "BadFact", "Clash", "Ring", "BadNumber", "BadRow", "TooMany", "TooFar", "TooWide", "NeedsPoint"]
def loose1 : List PySem.Str := ["NotGrowing", "NoSeat", "NoSuch", "Held", "common_divisor", "frac", "over", "ceil_of", "Beneath", "raised", "root_down", "root_up", "from_where", "_law_store", "_law_take", "_law_chance", "_law_pick", "_law_gcd"]
def loose2 : List PySem.Str := ["_law_frac", "_law_mul", "_law_div", "_law_pow", "_law_only", "_law_like", "_law_fraction", "_law_world", "_law_least", "_law_refused", "_law_made", "LEADING_BITS"]
def loose : List PySem.Str := loose0 ++ loose1 ++ loose2
/-- an exception's class -/
def excB (K : PySem.W.Frag) (x : Str) : Bool := He.eqO (PySem.W.findIn K (.ref (He.ga K x)) "__getattribute__") (some (some (.builtin "BaseException.__getattribute__"))) && (He.eqO (PySem.W.findIn K (.ref (He.ga K x)) "__getattr__") (some none) && (decide (PySem.W.subIn K (.ref (He.ga K x)) (.type "BaseException") = some true) && (PySem.W.hasDictIn K (He.ga K x) && (He.eqO (PySem.W.findIn K (.ref (He.ga K x)) "__class__") (some (some (.builtin "object.__class__"))) && (He.eqO (PySem.W.specialIn K (.builtin "object.__class__") "__get__") (some (some (.builtin "getset_descriptor.__get__"))) && (decide (PySem.W.takesIn K (.builtin "object.__class__") = some true) && decide (PySem.W.mroIn K (He.ga K x) (.type "object") = some true)))))))
theorem excB_ok {K : PySem.W.Frag} {x : Str} (h : excB K x = true) : ExcC K (He.ga K x) := by
  obtain ⟨h1, h⟩ := He.ba h
  obtain ⟨h2, h⟩ := He.ba h
  obtain ⟨h3, h⟩ := He.ba h
  obtain ⟨h4, h⟩ := He.ba h
  obtain ⟨h5, h⟩ := He.ba h
  obtain ⟨h6, h⟩ := He.ba h
  obtain ⟨h7, h8⟩ := He.ba h
  exact ⟨He.eqO_ok h1, He.eqO_ok h2, of_decide_eq_true h3, h4, He.eqO_ok h5, He.eqO_ok h6, of_decide_eq_true h7, of_decide_eq_true h8⟩
def kitB (K : PySem.W.Frag) (y : Str) : Bool := (names21.all fun x => decide (PySem.W.kitOne K (.ref (He.ga K y)) (.ref (He.ga K x)) = some (x == y))) && decide (PySem.W.kitOne K (.ref (He.ga K y)) (.type "ValueError") = some true)
theorem kitB_ok {K : PySem.W.Frag} {y : Str} (h : kitB K y = true) : (∀ x ∈ names21, PySem.W.kitOne K (.ref (He.ga K y)) (.ref (He.ga K x)) = some (x == y)) ∧ PySem.W.kitOne K (.ref (He.ga K y)) (.type "ValueError") = some true := by
  obtain ⟨h1, h2⟩ := He.ba h
  exact ⟨fun x hx => of_decide_eq_true (List.all_eq_true.mp h1 x hx), of_decide_eq_true h2⟩
def exK (K : PySem.W.Frag) : Bool := (excB K "BadNumber" && excB K "NoSuch") && (kitB K "BadNumber" && kitB K "NoSuch")
abbrev R : PySem.W.OpenRow := PySem.W.OpenLaw.row PySem.Challenge.rw_growsnofaster_k16_least_where
abbrev hk : PySem.W.Hook := He.hookX 4 fa fn [] [] exK
def ob (s : PySem.W.SharedT) : He.AlX := He.obsX 4 fa fn [] [] exK (HandSHeadRun.getT s)
theorem ob_eq (s : PySem.W.SharedT) : ob s = hk.obs s.abs := He.obsX_eq (HandSHeadRun.getT_eq s)
theorem run (w : World) : HandSHeadRun.RunEq R (PySem.W.view R.prog [52]) hk ob 20000 loose w := by
  intro os
  kernel_rfl
end Cl

set_option maxHeartbeats 0
namespace Cl
open PySem PySem.Spec PyProof.Rows L2 DL M
theorem line63 : 63 ≤ sizeLine := by
  rw [sizeLine_eq]
  decide
theorem facts {P : Program} {w : World} {K : PySem.W.Frag} {h : Heap} {mg : Str → Option Value} {f : Addr} (X : K.In h) (G : h.Ns mainGlobals mg) (hfa : mg ("law" : Str) = some (.ref f)) (c : He.SaysD fa fn K) (hex : exK K = true) :
    ∃ fd : FuncData, (∀ (s : Shared) (v : Value), BindsTo s fd ⟨[v], []⟩ [("script", v)]) ∧ ∀ base : Heap, K.In base → base.Ns mainGlobals mg → FnOk P w K mg base CX0 6 f fd ["script"] (DL.spLaw K) := by
  obtain ⟨he1, he2⟩ := He.ba hex
  obtain ⟨he3, he4⟩ := He.ba he1
  obtain ⟨he5, he6⟩ := He.ba he2
  have exB := excB_ok he3
  have exN := excB_ok he4
  obtain ⟨kB, vB⟩ := kitB_ok he5
  obtain ⟨kN, vN⟩ := kitB_ok he6
  obtain ⟨fd_common_divisor, F_common_divisor⟩ := c.def_ 1 (d := d_common_divisor) rfl
  obtain ⟨fd_frac, F_frac⟩ := c.def_ 2 (d := d_frac) rfl
  obtain ⟨fd_over, F_over⟩ := c.def_ 3 (d := d_over) rfl
  obtain ⟨fd_ceil_of, F_ceil_of⟩ := c.def_ 4 (d := d_ceil_of) rfl
  obtain ⟨fd_raised, F_raised⟩ := c.def_ 5 (d := d_raised) rfl
  obtain ⟨fd_root_down, F_root_down⟩ := c.def_ 6 (d := d_root_down) rfl
  obtain ⟨fd_root_up, F_root_up⟩ := c.def_ 7 (d := d_root_up) rfl
  obtain ⟨fd_from_where, F_from_where⟩ := c.def_ 8 (d := d_from_where) rfl
  obtain ⟨fd__law_store, F__law_store⟩ := c.def_ 9 (d := d__law_store) rfl
  obtain ⟨fd__law_take, F__law_take⟩ := c.def_ 10 (d := d__law_take) rfl
  obtain ⟨fd__law_chance, F__law_chance⟩ := c.def_ 11 (d := d__law_chance) rfl
  obtain ⟨fd__law_pick, F__law_pick⟩ := c.def_ 12 (d := d__law_pick) rfl
  obtain ⟨fd__law_gcd, F__law_gcd⟩ := c.def_ 13 (d := d__law_gcd) rfl
  obtain ⟨fd__law_frac, F__law_frac⟩ := c.def_ 14 (d := d__law_frac) rfl
  obtain ⟨fd__law_mul, F__law_mul⟩ := c.def_ 15 (d := d__law_mul) rfl
  obtain ⟨fd__law_div, F__law_div⟩ := c.def_ 16 (d := d__law_div) rfl
  obtain ⟨fd__law_pow, F__law_pow⟩ := c.def_ 17 (d := d__law_pow) rfl
  obtain ⟨fd__law_only, F__law_only⟩ := c.def_ 18 (d := d__law_only) rfl
  obtain ⟨fd__law_like, F__law_like⟩ := c.def_ 19 (d := d__law_like) rfl
  obtain ⟨fd__law_fraction, F__law_fraction⟩ := c.def_ 20 (d := d__law_fraction) rfl
  obtain ⟨fd__law_world, F__law_world⟩ := c.def_ 21 (d := d__law_world) rfl
  obtain ⟨fd__law_least, F__law_least⟩ := c.def_ 22 (d := d__law_least) rfl
  obtain ⟨fd__law_refused, F__law_refused⟩ := c.def_ 23 (d := d__law_refused) rfl
  obtain ⟨fd__law_made, F__law_made⟩ := c.def_ 24 (d := d__law_made) rfl
  obtain ⟨fd_law, F_law⟩ := c.def_ 25 (d := d_law) rfl
  obtain ⟨fd_init, F_init⟩ := c.def_ 0 (d := d_init) rfl
  have e := hfa.symm.trans (He.glo_ok X G (c.fact 24 (f := .glo "law") rfl))
  cases e
  have bl := FunD.bindsA (ps := ["script"]) F_law fun _ _ _ _ _ _ us hl => match us, hl with | [_], _ => rfl
  refine ⟨fd_law, fun s v => bl s [v] rfl, fun base _ _ => ?_⟩
  have n_common_divisor := (He.glo_ok X G (c.fact 0 (f := .glo "common_divisor") rfl))
  have n_frac := (He.glo_ok X G (c.fact 1 (f := .glo "frac") rfl))
  have n_over := (He.glo_ok X G (c.fact 2 (f := .glo "over") rfl))
  have n_ceil_of := (He.glo_ok X G (c.fact 3 (f := .glo "ceil_of") rfl))
  have n_raised := (He.glo_ok X G (c.fact 4 (f := .glo "raised") rfl))
  have n_root_down := (He.glo_ok X G (c.fact 5 (f := .glo "root_down") rfl))
  have n_root_up := (He.glo_ok X G (c.fact 6 (f := .glo "root_up") rfl))
  have n_from_where := (He.glo_ok X G (c.fact 7 (f := .glo "from_where") rfl))
  have n__law_store := (He.glo_ok X G (c.fact 8 (f := .glo "_law_store") rfl))
  have n__law_take := (He.glo_ok X G (c.fact 9 (f := .glo "_law_take") rfl))
  have n__law_chance := (He.glo_ok X G (c.fact 10 (f := .glo "_law_chance") rfl))
  have n__law_pick := (He.glo_ok X G (c.fact 11 (f := .glo "_law_pick") rfl))
  have n__law_gcd := (He.glo_ok X G (c.fact 12 (f := .glo "_law_gcd") rfl))
  have n__law_frac := (He.glo_ok X G (c.fact 13 (f := .glo "_law_frac") rfl))
  have n__law_mul := (He.glo_ok X G (c.fact 14 (f := .glo "_law_mul") rfl))
  have n__law_div := (He.glo_ok X G (c.fact 15 (f := .glo "_law_div") rfl))
  have n__law_pow := (He.glo_ok X G (c.fact 16 (f := .glo "_law_pow") rfl))
  have n__law_only := (He.glo_ok X G (c.fact 17 (f := .glo "_law_only") rfl))
  have n__law_like := (He.glo_ok X G (c.fact 18 (f := .glo "_law_like") rfl))
  have n__law_fraction := (He.glo_ok X G (c.fact 19 (f := .glo "_law_fraction") rfl))
  have n__law_world := (He.glo_ok X G (c.fact 20 (f := .glo "_law_world") rfl))
  have n__law_least := (He.glo_ok X G (c.fact 21 (f := .glo "_law_least") rfl))
  have n__law_refused := (He.glo_ok X G (c.fact 22 (f := .glo "_law_refused") rfl))
  have n__law_made := (He.glo_ok X G (c.fact 23 (f := .glo "_law_made") rfl))
  have n_law := (He.glo_ok X G (c.fact 24 (f := .glo "law") rfl))
  have m_ValueError := (He.free_ok X G (c.fact 48 (f := .free "ValueError") rfl))
  have m_abs := (He.free_ok X G (c.fact 49 (f := .free "abs") rfl))
  have m_bool := (He.free_ok X G (c.fact 50 (f := .free "bool") rfl))
  have m_int := (He.free_ok X G (c.fact 51 (f := .free "int") rfl))
  have m_isinstance := (He.free_ok X G (c.fact 52 (f := .free "isinstance") rfl))
  have m_len := (He.free_ok X G (c.fact 53 (f := .free "len") rfl))
  have m_list := (He.free_ok X G (c.fact 54 (f := .free "list") rfl))
  have m_max := (He.free_ok X G (c.fact 55 (f := .free "max") rfl))
  have m_range := (He.free_ok X G (c.fact 56 (f := .free "range") rfl))
  have m_str := (He.free_ok X G (c.fact 57 (f := .free "str") rfl))
  have m_tuple := (He.free_ok X G (c.fact 58 (f := .free "tuple") rfl))
  have hB : Cls K (He.ga K "Beneath") := He.cls_ok (c.fact 60 (f := .cls "Beneath") rfl)
  have mB : Mk K (He.ga K "Beneath") (He.ma K (He.ga K "Beneath") "__init__") := He.mkr_ok (c.fact 61 (f := .mkr "Beneath") rfl)
  have nB : ∀ f ∈ namesB, NoAttr K (He.ga K "Beneath") f := by
    have z : namesB = (["yes", "papers", "k", "sigma", "choice", "c"] : List PySem.Str) := rfl
    rw [z]
    intro f hf
    rcases List.mem_cons.mp hf with rfl | hf
    · exact He.noat_ok (c.fact 62 (f := .noat "Beneath" "yes") rfl)
    rcases List.mem_cons.mp hf with rfl | hf
    · exact He.noat_ok (c.fact 63 (f := .noat "Beneath" "papers") rfl)
    rcases List.mem_cons.mp hf with rfl | hf
    · exact He.noat_ok (c.fact 64 (f := .noat "Beneath" "k") rfl)
    rcases List.mem_cons.mp hf with rfl | hf
    · exact He.noat_ok (c.fact 65 (f := .noat "Beneath" "sigma") rfl)
    rcases List.mem_cons.mp hf with rfl | hf
    · exact He.noat_ok (c.fact 66 (f := .noat "Beneath" "choice") rfl)
    · cases List.mem_singleton.mp hf
      exact He.noat_ok (c.fact 67 (f := .noat "Beneath" "c") rfl)
  obtain ⟨q1, q2, q3, q4⟩ := He.exc_ok (c.fact 68 (f := .exc "BadNumber") rfl)
  have x_BadNumber : DL.XCls K mg "BadNumber" (He.ga K "BadNumber") "ValueError" "ValueError.__new__" "ValueError.__init__" He.veBase := ⟨PySem.F.excBase_ValueError, q1, (He.glo_ok X G (c.fact 37 (f := .glo "BadNumber") rfl)), q2, q3, q4⟩
  obtain ⟨q1, q2, q3, q4⟩ := He.exc_ok (c.fact 69 (f := .exc "NoSuch") rfl)
  have x_NoSuch : DL.XCls K mg "NoSuch" (He.ga K "NoSuch") "ValueError" "ValueError.__new__" "ValueError.__init__" He.veBase := ⟨PySem.F.excBase_ValueError, q1, (He.glo_ok X G (c.fact 45 (f := .glo "NoSuch") rfl)), q2, q3, q4⟩
  have k3 := calK3 (P := P) (w := w) (mg := mg) (base := base) mB (He.glo_ok X G (c.fact 47 (f := .glo "Beneath") rfl)) hB nB F_init
  have kc := calKc (P := P) (w := w) (mg := mg) (base := base) mB (He.glo_ok X G (c.fact 47 (f := .glo "Beneath") rfl)) hB nB F_init
  have k2 := calK2b (P := P) (w := w) (mg := mg) (base := base) mB (He.glo_ok X G (c.fact 47 (f := .glo "Beneath") rfl)) hB nB F_init
  have c_common_divisor : DL.Cal P w K mg base 1 "common_divisor" sp_common_divisor [] [] := DL.Cal.of (dvs := []) (ps := ["a", "b"]) F_common_divisor (ok_common_divisor F_common_divisor) n_common_divisor fun _ _ _ _ _ _ us hl => match us, hl with | [_, _], _ => rfl
  have c_frac : DL.Cal P w K mg base 2 "frac" sp_frac [] [] := DL.Cal.ofD (dvs := [V.int 1]) (ps := ["above", "below"]) (fun z => nomatch z) F_frac (ok_frac (c_common_divisor := c_common_divisor) (m_abs := m_abs) F_frac) n_frac fun _ _ _ _ _ _ _ us its hl hi => match us, hl, its, hi with | [_, _], _, [_], _ => ⟨_, rfl, rfl⟩
  have c_over : DL.Cal P w K mg base 3 "over" sp_over [] [] := DL.Cal.of (dvs := []) (ps := ["f", "g"]) F_over (ok_over (c_frac := c_frac) F_over) n_over fun _ _ _ _ _ _ us hl => match us, hl with | [_, _], _ => rfl
  have c_ceil_of : DL.Cal P w K mg base 1 "ceil_of" sp_ceil_of [] [] := DL.Cal.of (dvs := []) (ps := ["f"]) F_ceil_of (ok_ceil_of F_ceil_of) n_ceil_of fun _ _ _ _ _ _ us hl => match us, hl with | [_], _ => rfl
  have c_raised : DL.Cal P w K mg base 1 "raised" sp_raised [] [] := DL.Cal.of (dvs := []) (ps := ["n", "e"]) F_raised (ok_raised F_raised) n_raised fun _ _ _ _ _ _ us hl => match us, hl with | [_, _], _ => rfl
  have c_root_down : DL.Cal P w K mg base 2 "root_down" sp_root_down [] [] := DL.Cal.of (dvs := []) (ps := ["target", "e"]) F_root_down (ok_root_down (c_raised := c_raised) (m_max := m_max) (g_LEADING_BITS := He.int_ok X G (c.fact 59 (f := .int "LEADING_BITS" 32) rfl)) F_root_down) n_root_down fun _ _ _ _ _ _ us hl => match us, hl with | [_, _], _ => rfl
  have c_root_up : DL.Cal P w K mg base 3 "root_up" sp_root_up [] [] := DL.Cal.of (dvs := []) (ps := ["target", "e"]) F_root_up (ok_root_up (c_root_down := c_root_down) F_root_up) n_root_up fun _ _ _ _ _ _ us hl => match us, hl with | [_, _], _ => rfl
  have c_from_where : DL.Cal P w K mg base 4 "from_where" (sp_from_where (He.ga K "Beneath") (He.ga K "BadNumber") (He.ga K "NoSuch")) [] [] := DL.Cal.of (dvs := []) (ps := ["answer", "e"]) F_from_where (ok_from_where (c_root_up := c_root_up) (c_ceil_of := c_ceil_of) (c_raised := c_raised) (c_over := c_over) (hB := hB) (nB := nB) (x_BadNumber := x_BadNumber) (x_NoSuch := x_NoSuch) F_from_where) n_from_where fun _ _ _ _ _ _ us hl => match us, hl with | [_, _], _ => rfl
  have c__law_store : DL.Cal P w K mg base 1 "_law_store" sp__law_store [] [] := DL.Cal.of (dvs := []) (ps := ["script"]) F__law_store (ok__law_store (m_int := m_int) (m_abs := m_abs) F__law_store) n__law_store fun _ _ _ _ _ _ us hl => match us, hl with | [_], _ => rfl
  have c__law_take : DL.Cal P w K mg base 1 "_law_take" sp__law_take [] [] := DL.Cal.of (dvs := []) (ps := ["store", "many"]) F__law_take (ok__law_take (m_int := m_int) (m_len := m_len) (m_max := m_max) F__law_take) n__law_take fun _ _ _ _ _ _ us hl => match us, hl with | [_, _], _ => rfl
  have c__law_chance : DL.Cal P w K mg base 2 "_law_chance" sp__law_chance [] [] := DL.Cal.of (dvs := []) (ps := ["store", "some", "many"]) F__law_chance (ok__law_chance (c__law_take := c__law_take) F__law_chance) n__law_chance fun _ _ _ _ _ _ us hl => match us, hl with | [_, _, _], _ => rfl
  have c__law_pick : DL.Cal P w K mg base 2 "_law_pick" sp__law_pick [] [] := DL.Cal.of (dvs := []) (ps := ["store", "items"]) F__law_pick (ok__law_pick (c__law_take := c__law_take) (m_len := m_len) F__law_pick) n__law_pick fun _ _ _ _ _ _ us hl => match us, hl with | [_, _], _ => rfl
  have c__law_gcd : DL.Cal P w K mg base 1 "_law_gcd" sp__law_gcd [] [] := DL.Cal.of (dvs := []) (ps := ["one", "two"]) F__law_gcd (ok__law_gcd (m_int := m_int) (m_abs := m_abs) F__law_gcd) n__law_gcd fun _ _ _ _ _ _ us hl => match us, hl with | [_, _], _ => rfl
  have c__law_frac : DL.Cal P w K mg base 2 "_law_frac" sp__law_frac [] [] := DL.Cal.of (dvs := []) (ps := ["one", "two"]) F__law_frac (ok__law_frac (c__law_gcd := c__law_gcd) F__law_frac) n__law_frac fun _ _ _ _ _ _ us hl => match us, hl with | [_, _], _ => rfl
  have c__law_mul : DL.Cal P w K mg base 3 "_law_mul" sp__law_mul [] [] := DL.Cal.of (dvs := []) (ps := ["one", "two"]) F__law_mul (ok__law_mul (c__law_frac := c__law_frac) F__law_mul) n__law_mul fun _ _ _ _ _ _ us hl => match us, hl with | [_, _], _ => rfl
  have c__law_div : DL.Cal P w K mg base 3 "_law_div" sp__law_div [] [] := DL.Cal.of (dvs := []) (ps := ["one", "two"]) F__law_div (ok__law_div (c__law_frac := c__law_frac) F__law_div) n__law_div fun _ _ _ _ _ _ us hl => match us, hl with | [_, _], _ => rfl
  have c__law_pow : DL.Cal P w K mg base 1 "_law_pow" sp__law_pow [] [] := DL.Cal.of (dvs := []) (ps := ["number", "times_by"]) F__law_pow (ok__law_pow (m_int := m_int) (m_max := m_max) F__law_pow) n__law_pow fun _ _ _ _ _ _ us hl => match us, hl with | [_, _], _ => rfl
  have c__law_only : DL.CalE P w K mg base 1 "_law_only" (okOnly K (He.ga K "BadNumber") (He.ga K "NoSuch")) (sp__law_only (He.ga K "BadNumber") (He.ga K "NoSuch")) := DL.CalE.of (ps := ["e", "spot"]) F__law_only (ok__law_only (kB := kB) (kN := kN) (vB := vB) (vN := vN) (m_isinstance := m_isinstance) (m_ValueError := m_ValueError) F__law_only (g_BadText := (He.glo_ok X G (c.fact 26 (f := .glo "BadText") rfl))) (g_BadName := (He.glo_ok X G (c.fact 27 (f := .glo "BadName") rfl))) (g_BadCost := (He.glo_ok X G (c.fact 28 (f := .glo "BadCost") rfl))) (g_BadLaw := (He.glo_ok X G (c.fact 29 (f := .glo "BadLaw") rfl))) (g_BadPoint := (He.glo_ok X G (c.fact 30 (f := .glo "BadPoint") rfl))) (g_EmptyRoom := (He.glo_ok X G (c.fact 31 (f := .glo "EmptyRoom") rfl))) (g_BadWork := (He.glo_ok X G (c.fact 32 (f := .glo "BadWork") rfl))) (g_NoPower := (He.glo_ok X G (c.fact 33 (f := .glo "NoPower") rfl))) (g_BadFact := (He.glo_ok X G (c.fact 34 (f := .glo "BadFact") rfl))) (g_Clash := (He.glo_ok X G (c.fact 35 (f := .glo "Clash") rfl))) (g_Ring := (He.glo_ok X G (c.fact 36 (f := .glo "Ring") rfl))) (g_BadNumber := (He.glo_ok X G (c.fact 37 (f := .glo "BadNumber") rfl))) (g_BadRow := (He.glo_ok X G (c.fact 38 (f := .glo "BadRow") rfl))) (g_TooMany := (He.glo_ok X G (c.fact 39 (f := .glo "TooMany") rfl))) (g_TooFar := (He.glo_ok X G (c.fact 40 (f := .glo "TooFar") rfl))) (g_TooWide := (He.glo_ok X G (c.fact 41 (f := .glo "TooWide") rfl))) (g_NeedsPoint := (He.glo_ok X G (c.fact 42 (f := .glo "NeedsPoint") rfl))) (g_NotGrowing := (He.glo_ok X G (c.fact 43 (f := .glo "NotGrowing") rfl))) (g_NoSeat := (He.glo_ok X G (c.fact 44 (f := .glo "NoSeat") rfl))) (g_NoSuch := (He.glo_ok X G (c.fact 45 (f := .glo "NoSuch") rfl))) (g_Held := (He.glo_ok X G (c.fact 46 (f := .glo "Held") rfl)))) n__law_only fun _ _ _ _ _ _ us hl => match us, hl with | [_, _], _ => rfl
  have c__law_like : DL.Cal P w K mg base 1 "_law_like" sp__law_like [] [] := DL.Cal.of (dvs := []) (ps := ["told_one", "due"]) F__law_like (ok__law_like (m_len := m_len) (m_isinstance := m_isinstance) (m_list := m_list) (m_tuple := m_tuple) (m_range := m_range) (m_int := m_int) (m_bool := m_bool) (m_str := m_str) F__law_like) n__law_like fun _ _ _ _ _ _ us hl => match us, hl with | [_, _], _ => rfl
  have c__law_fraction : DL.Cal P w K mg base 3 "_law_fraction" sp__law_fraction [] [] := DL.Cal.of (dvs := []) (ps := ["store", "great"]) F__law_fraction (ok__law_fraction (c__law_frac := c__law_frac) (c__law_take := c__law_take) F__law_fraction) n__law_fraction fun _ _ _ _ _ _ us hl => match us, hl with | [_, _], _ => rfl
  have c__law_world : DL.Cal P w K mg base 4 "_law_world" sp__law_world [] [] := DL.Cal.of (dvs := []) (ps := ["store"]) F__law_world (ok__law_world (c__law_mul := c__law_mul) (c__law_pow := c__law_pow) (c__law_frac := c__law_frac) (c__law_take := c__law_take) (c__law_fraction := c__law_fraction) (c__law_pick := c__law_pick) F__law_world) n__law_world fun _ _ _ _ _ _ us hl => match us, hl with | [_], _ => rfl
  have c__law_least : DL.Cal P w K mg base 4 "_law_least" sp__law_least [] [] := DL.Cal.of (dvs := []) (ps := ["world", "share", "number"]) F__law_least (ok__law_least (c__law_pow := c__law_pow) (c__law_div := c__law_div) (m_isinstance := m_isinstance) (m_bool := m_bool) (m_int := m_int) F__law_least) n__law_least fun _ _ _ _ _ _ us hl => match us, hl with | [_, _, _], _ => rfl
  have c__law_refused : DL.Cal P w K mg base 5 "_law_refused" (sp__law_refused (He.ga K "Beneath")) [] [] := DL.Cal.of (dvs := []) (ps := ["answer", "share", "spot"]) F__law_refused (ok__law_refused (c_from_where := c_from_where) (c__law_only := c__law_only) (g_GrowError := (He.glo_ok X G (c.fact 25 (f := .glo "GrowError") rfl))) (eB := He.exm_ok (c.fact 70 (f := .exm "BadNumber" "GrowError" true) rfl)) (eN := He.exm_ok (c.fact 71 (f := .exm "NoSuch" "GrowError" true) rfl)) (xB := exB) (xN := exN) F__law_refused) n__law_refused fun _ _ _ _ _ _ us hl => match us, hl with | [_, _, _], _ => rfl
  have c__law_made : DL.Cal P w K mg base 3 "_law_made" (sp__law_made (He.ga K "Beneath")) [] [] := DL.Cal.of (dvs := []) (ps := ["store", "world"]) F__law_made (ok__law_made (c__law_chance := c__law_chance) (k_Beneath_k_sigma := k2) (k_Beneath_papers_k_sigma := k3) F__law_made) n__law_made fun _ _ _ _ _ _ us hl => match us, hl with | [_, _], _ => rfl
  exact ok_law F_law hB nB c_from_where c__law_least c__law_frac c__law_gcd c__law_like c__law_refused c__law_take c__law_pick c__law_made c__law_world c__law_store kc k2
end Cl
open PySem PySem.W PySem.Calls PyProof.Rows
theorem PySem.Challenge.cw_growsnofaster_k16_least_where_holds : PySem.Challenge.rw_growsnofaster_k16_least_where.Holds := by
  w_on; o_law
  refine HandSHeadRun.head_any (r := OpenLaw.row PySem.Challenge.rw_growsnofaster_k16_least_where) (q := view (OpenLaw.row PySem.Challenge.rw_growsnofaster_k16_least_where).prog [52]) (H := Cl.hk) (ob := Cl.ob) (M := 20000) (loose := Cl.loose) (d := HandSHeadRun.topDef (OpenLaw.row PySem.Challenge.rw_growsnofaster_k16_least_where).prog 52) (kwd := []) Cl.ob_eq
    (by kernel_rfl) (fun s => by kernel_rfl) Cl.run (by kernel_rfl) (by kernel_rfl) (by kernel_rfl) (by rfl) (by first | assumption | decide +kernel) (by decide +kernel) ⟨rfl, rfl, rfl, rfl, rfl, by decide +kernel⟩ ?hw ?hc
  case hw => w_witness2
  case hc =>
    refine L2.walk_ofE (l := PySem.Challenge.rw_growsnofaster_k16_least_where) (n := 63) (k := 6) (x := "script") (CX := L2.CX0) rfl (by decide) (by kernel_rfl) ⟨rfl, by decide, by decide⟩ ?F (fun _ _ _ _ z => z)
    intro w mg fa h Y G hmg0
    obtain ⟨K, KX, c⟩ := Y
    have hmg : mg ("law" : PySem.Str) = some (.ref fa) := by
      have e : (HandSHeadRun.topDef (OpenLaw.row PySem.Challenge.rw_growsnofaster_k16_least_where).prog 52).name = ("law" : PySem.Str) := by kernel_rfl
      rw [← e]
      exact hmg0
    obtain ⟨fd, hb, hF⟩ := Cl.facts (P := (PySem.Challenge.rw_growsnofaster_k16_least_where).prog) (w := w) KX G hmg c.t.d c.more
    exact ⟨K, fd, DL.spLaw K, KX, hb, fun H a ns hl _ hS => ⟨a, ns, rfl, hS, Nat.le_trans (by first | exact hl | simpa using hl | omega) Cl.line63, fun _ => rfl⟩, hF⟩

