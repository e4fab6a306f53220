import PyProof.Rows.All
import Wide.All
import OpenK.AllK
import Wide.FinOn
import KE.RegKIsAll
import KE.RegKTryMore
import HandS.ForMost
import HandS.ForExc
import HandS.Flow
import HandS.TryOnly
import HandS.ExcInit
import HandS.ExcField
import HandS.ExcIs
import HandS.IsInst
import KE.KExcIs
import HandS.Style
import HandS.Deep
import KE.KOpsOwn
import HandS.Wide
import PyProof.StrBlock2
import HandS.ClsMeth
import HandS.Iter
import HandS.Walk
import HandS.IterVal
import KE.KOwnIter
import HandS.Defaults
import PyProof.StrLawsIn
import KE.KEqSeq
import HandS.Codes
import PySem.Challenge.RW_pagebureau_k00_marks_as_sets
set_option Elab.async false
set_option linter.all false
set_option maxRecDepth 100000
set_option maxHeartbeats 4000000
/-! MiCore: programs as pure functions over trees and cells; the judgements and their basic lemmas. -/
namespace Mi
open PySem PySem.Spec PyProof.Rows L2

/-! ### data -/
inductive D where
  | non | bl (b : Bool) | int (i : Int) | str (x : Str)
  | lst (xs : List D) | tup (xs : List D) | ins (c : Nat) (fs : List (Str × D))
  | cell (n : Nat) | cls (c : Nat) | ty (n : String)
  /-- a list that stands fast: the script, one of the module's own -/
  | fix (xs : List D)
abbrev Fs := List (Str × D)
/-- what a cell holds -/
inductive Cl where
  | lst (xs : List D) | ins (c : Nat) (fs : Fs) | dk (kvs : List (Key × D))
abbrev Sto := List Cl
/-- a world: what may change, the cells, the heap -/
structure Wd where
  av : Addr → Prop
  g : List Addr
  h : Hp
  trk : ∀ p, av p → h p ≠ none
  gav : ∀ p ∈ g, av p
/-- a list, a tuple of the written part -/
def WrL (K : PySem.W.Frag) (p : Addr) (xs : List V) : Prop := SqL K (fun _ => none) p xs
def WrT (K : PySem.W.Frag) (p : Addr) (xs : List V) : Prop := SqT K (fun _ => none) p xs
theorem rd_none {p : Addr} {u : HO} (h : Rd (fun _ => none) p u) : False := by
  rcases h with h | ⟨o, h⟩ <;> cases h
theorem WrL.sq {K : PySem.W.Frag} {p : Addr} {xs : List V} {H : Hp} (h : WrL K p xs) : SqL K H p xs := by
  rcases h with h | h
  · exact (rd_none h).elim
  · exact .inr h
theorem WrT.sq {K : PySem.W.Frag} {p : Addr} {xs : List V} {H : Hp} (h : WrT K p xs) : SqT K H p xs := by
  rcases h with h | h
  · exact (rd_none h).elim
  · exact .inr h

mutual
inductive Rep (K : PySem.W.Frag) (ca : Nat → Addr) (W : Wd) : V → D → Prop where
  | non : Rep K ca W .non .non
  | bl (b : Bool) : Rep K ca W (.bl b) (.bl b)
  | int (i : Int) : Rep K ca W (.int i) (.int i)
  | str (x : Str) : Rep K ca W (.str x) (.str x)
  | lst {p : Addr} {xs : List V} {ds : List D} : ¬ W.av p → W.h p = some (.lst xs) → Reps K ca W xs ds → Rep K ca W (.ref p) (.lst ds)
  | fix {p : Addr} {xs : List V} {ds : List D} : ¬ W.av p → Rd W.h p (.lst xs) → Reps K ca W xs ds → Rep K ca W (.ref p) (.fix ds)
  | fixK {p : Addr} {xs : List V} {ds : List D} : WrL K p xs → Reps K ca W xs ds → Rep K ca W (.ref p) (.fix ds)
  | tup {p : Addr} {xs : List V} {ds : List D} : ¬ W.av p → Rd W.h p (.tup xs) → Reps K ca W xs ds → Rep K ca W (.ref p) (.tup ds)
  | tupK {p : Addr} {xs : List V} {ds : List D} : WrT K p xs → Reps K ca W xs ds → Rep K ca W (.ref p) (.tup ds)
  | ins {p dx : Addr} {c : Nat} {fs : List (Str × V)} {gs : Fs} : ¬ W.av p → W.h p = some (.ins (ca c) dx fs) → RepF K ca W fs gs → Rep K ca W (.ref p) (.ins c gs)
  | cell {n : Nat} {p : Addr} : W.g[n]? = some p → Rep K ca W (.ref p) (.cell n)
  | cls (c : Nat) : Rep K ca W (.ref (ca c)) (.cls c)
  | ty (n : String) : Rep K ca W (.ty n) (.ty n)
inductive Reps (K : PySem.W.Frag) (ca : Nat → Addr) (W : Wd) : List V → List D → Prop where
  | nil : Reps K ca W [] []
  | cons {v : V} {d : D} {vs : List V} {ds : List D} : Rep K ca W v d → Reps K ca W vs ds → Reps K ca W (v :: vs) (d :: ds)
inductive RepF (K : PySem.W.Frag) (ca : Nat → Addr) (W : Wd) : List (Str × V) → Fs → Prop where
  | nil : RepF K ca W [] []
  | cons {f : Str} {v : V} {d : D} {vs : List (Str × V)} {ds : Fs} : Rep K ca W v d → RepF K ca W vs ds → RepF K ca W ((f, v) :: vs) ((f, d) :: ds)
end

/-- a world that grew: trees and what others own stand; cells may have changed -/
structure Ext (W W' : Wd) : Prop where
  keep : ∀ p o, ¬ W.av p → W.h p = some o → W'.h p = some o
  own : ∀ p, W.av p → p ∉ W.g → W'.h p = W.h p
  av : ∀ p, W.av p → W'.av p
  new : ∀ p, W'.av p → W.av p ∨ W.h p = none
  stay : ∀ p, W'.h p = none → W.h p = none
  pre : ∃ l, W'.g = W.g ++ l ∧ ∀ p ∈ l, W.h p = none
/-- trees stand -/
structure Kp (W W' : Wd) : Prop where
  keep : ∀ p o, ¬ W.av p → W.h p = some o → W'.h p = some o
  new : ∀ p, W'.av p → W.av p ∨ W.h p = none
  stay : ∀ p, W'.h p = none → W.h p = none
  pre : ∃ l, W'.g = W.g ++ l ∧ ∀ p ∈ l, W.h p = none
theorem Ext.kp {W W' : Wd} (e : Ext W W') : Kp W W' := ⟨e.keep, e.new, e.stay, e.pre⟩
theorem Kp.refl (W : Wd) : Kp W W := ⟨fun _ _ _ h => h, fun _ h => .inl h, fun _ h => h, [], by simp, fun _ h => by simp at h⟩
theorem Kp.trans {W W1 W2 : Wd} (a : Kp W W1) (b : Kp W1 W2) : Kp W W2 := by
  obtain ⟨l1, e1, f1⟩ := a.pre
  obtain ⟨l2, e2, f2⟩ := b.pre
  refine ⟨fun p o n h => b.keep p o (fun z => ?_) (a.keep p o n h), fun p h => ?_, fun p h => a.stay p (b.stay p h), l1 ++ l2, by rw [e2, e1, List.append_assoc], fun p hp => ?_⟩
  · rcases a.new p z with z | z
    · exact n z
    · rw [h] at z; cases z
  · rcases b.new p h with h | h
    · exact a.new p h
    · exact .inr (a.stay p h)
  · rcases List.mem_append.mp hp with z | z
    · exact f1 p z
    · exact a.stay p (f2 p z)
theorem Ext.refl (W : Wd) : Ext W W := ⟨fun _ _ _ h => h, fun _ _ _ => rfl, fun _ h => h, fun _ h => .inl h, fun _ h => h, [], by simp, fun _ h => by simp at h⟩
theorem Kp.nocell {W W' : Wd} (e : Kp W W') {p : Addr} (h : W.av p) (n : p ∉ W.g) : p ∉ W'.g := by
  obtain ⟨l, e, f⟩ := e.pre
  rw [e]
  simp only [List.mem_append, not_or]
  exact ⟨n, fun z => W.trk p h (f p z)⟩
theorem Ext.trans {W W1 W2 : Wd} (a : Ext W W1) (b : Ext W1 W2) : Ext W W2 := by
  have k := a.kp.trans b.kp
  refine ⟨k.keep, fun p h n => ?_, fun p h => b.av p (a.av p h), k.new, k.stay, k.pre⟩
  rw [b.own p (a.av p h) (a.kp.nocell h n), a.own p h n]
/-- what a tree's reading leans on -/
structure Kw (W W' : Wd) : Prop where
  keep : ∀ p o, ¬ W.av p → W.h p = some o → W'.h p = some o
  new : ∀ p, W'.av p → W.av p ∨ W.h p = none
  pre : ∃ l, W'.g = W.g ++ l
theorem Kp.kw {W W' : Wd} (e : Kp W W') : Kw W W' := ⟨e.keep, e.new, let ⟨l, h, _⟩ := e.pre; ⟨l, h⟩⟩
theorem Kw.nav {W W' : Wd} (e : Kw W W') {p : Addr} {o : HO} (n : ¬ W.av p) (h : W.h p = some o) : ¬ W'.av p := fun z => by
  rcases e.new p z with z | z
  · exact n z
  · rw [h] at z; cases z
theorem Kw.rd {W W' : Wd} (e : Kw W W') {p : Addr} {u : HO} (n : ¬ W.av p) (h : Rd W.h p u) : ¬ W'.av p ∧ Rd W'.h p u := by
  rcases h with h | ⟨o, h⟩
  · exact ⟨e.nav n h, .inl (e.keep _ _ n h)⟩
  · exact ⟨e.nav n h, .inr ⟨o, e.keep _ _ n h⟩⟩
section
variable {K : PySem.W.Frag} {ca : Nat → Addr} {W W' : Wd}
mutual
theorem Rep.kw0 (e : Kw W W') : ∀ {v : V} {d : D}, Rep K ca W v d → Rep K ca W' v d
  | _, _, .non => .non
  | _, _, .bl b => .bl b
  | _, _, .int i => .int i
  | _, _, .str x => .str x
  | _, _, .lst n h r => .lst (e.nav n h) (e.keep _ _ n h) (Reps.kw0 e r)
  | _, _, .fix n h r => .fix (e.rd n h).1 (e.rd n h).2 (Reps.kw0 e r)
  | _, _, .fixK h r => .fixK h (Reps.kw0 e r)
  | _, _, .tup n h r => .tup (e.rd n h).1 (e.rd n h).2 (Reps.kw0 e r)
  | _, _, .tupK h r => .tupK h (Reps.kw0 e r)
  | _, _, .ins n h r => .ins (e.nav n h) (e.keep _ _ n h) (RepF.kw0 e r)
  | _, _, .cell h => .cell (by
      obtain ⟨l, q⟩ := e.pre
      rw [q, List.getElem?_append_left (List.getElem?_eq_some_iff.mp h).1]
      exact h)
  | _, _, .cls c => .cls c
  | _, _, .ty n => .ty n
theorem Reps.kw0 (e : Kw W W') : ∀ {vs : List V} {ds : List D}, Reps K ca W vs ds → Reps K ca W' vs ds
  | _, _, .nil => .nil
  | _, _, .cons r t => .cons (Rep.kw0 e r) (Reps.kw0 e t)
theorem RepF.kw0 (e : Kw W W') : ∀ {vs : List (Str × V)} {ds : Fs}, RepF K ca W vs ds → RepF K ca W' vs ds
  | _, _, .nil => .nil
  | _, _, .cons r t => .cons (Rep.kw0 e r) (RepF.kw0 e t)
end
theorem Rep.kw {v : V} {d : D} (r : Rep K ca W v d) (e : Kw W W') : Rep K ca W' v d := Rep.kw0 e r
theorem Reps.kw {v : List V} {d : List D} (r : Reps K ca W v d) (e : Kw W W') : Reps K ca W' v d := Reps.kw0 e r
theorem RepF.kw {v : List (Str × V)} {d : Fs} (r : RepF K ca W v d) (e : Kw W W') : RepF K ca W' v d := RepF.kw0 e r
theorem Rep.kp {v : V} {d : D} (r : Rep K ca W v d) (e : Kp W W') : Rep K ca W' v d := r.kw e.kw
theorem Reps.kp {v : List V} {d : List D} (r : Reps K ca W v d) (e : Kp W W') : Reps K ca W' v d := r.kw e.kw
theorem RepF.kp {v : List (Str × V)} {d : Fs} (r : RepF K ca W v d) (e : Kp W W') : RepF K ca W' v d := r.kw e.kw
theorem Kp.nav {W W' : Wd} (e : Kp W W') {p : Addr} {o : HO} (n : ¬ W.av p) (h : W.h p = some o) : ¬ W'.av p := e.kw.nav n h
theorem Rep.mono {v : V} {d : D} (r : Rep K ca W v d) (e : Ext W W') : Rep K ca W' v d := r.kp e.kp
theorem Reps.mono {v : List V} {d : List D} (r : Reps K ca W v d) (e : Ext W W') : Reps K ca W' v d := r.kp e.kp
theorem RepF.mono {v : List (Str × V)} {d : Fs} (r : RepF K ca W v d) (e : Ext W W') : RepF K ca W' v d := r.kp e.kp
theorem Reps.length : ∀ {vs : List V} {ds : List D}, Reps K ca W vs ds → vs.length = ds.length
  | _, _, .nil => rfl
  | _, _, .cons _ t => by rw [List.length_cons, List.length_cons, Reps.length t]
theorem Reps.get : ∀ {vs : List V} {ds : List D} {i : Nat} {d : D}, Reps K ca W vs ds → ds[i]? = some d → ∃ v, vs[i]? = some v ∧ Rep K ca W v d
  | _, _, _, _, .nil, h => by simp at h
  | _, _, 0, _, .cons r _, h => by simp at h; subst h; exact ⟨_, rfl, r⟩
  | _, _, i + 1, _, .cons _ t, h => by
    obtain ⟨v, h1, h2⟩ := Reps.get (i := i) t (by simpa using h)
    exact ⟨v, by simpa using h1, h2⟩
theorem Reps.getV : ∀ {vs : List V} {ds : List D} {i : Nat} {v : V}, Reps K ca W vs ds → vs[i]? = some v → ∃ d, ds[i]? = some d ∧ Rep K ca W v d
  | _, _, _, _, .nil, h => by simp at h
  | _, _, 0, _, .cons r _, h => by simp at h; subst h; exact ⟨_, rfl, r⟩
  | _, _, i + 1, _, .cons _ t, h => by
    obtain ⟨v, h1, h2⟩ := Reps.getV (i := i) t (by simpa using h)
    exact ⟨v, by simpa using h1, h2⟩
theorem Reps.append : ∀ {vs ws : List V} {ds es : List D}, Reps K ca W vs ds → Reps K ca W ws es → Reps K ca W (vs ++ ws) (ds ++ es)
  | _, _, _, _, .nil, s => s
  | _, _, _, _, .cons r t, s => .cons r (Reps.append t s)
theorem Reps.take : ∀ {vs : List V} {ds : List D} (n : Nat), Reps K ca W vs ds → Reps K ca W (vs.take n) (ds.take n)
  | _, _, 0, _ => .nil
  | _, _, _ + 1, .nil => .nil
  | _, _, n + 1, .cons r t => .cons r (Reps.take n t)
theorem Reps.drop : ∀ {vs : List V} {ds : List D} (n : Nat), Reps K ca W vs ds → Reps K ca W (vs.drop n) (ds.drop n)
  | _, _, 0, r => r
  | _, _, _ + 1, .nil => .nil
  | _, _, n + 1, .cons _ t => Reps.drop n t
theorem Reps.set {v : V} {d : D} (r : Rep K ca W v d) : ∀ {vs : List V} {ds : List D} (i : Nat), Reps K ca W vs ds → Reps K ca W (vs.set i v) (ds.set i d)
  | _, _, _, .nil => .nil
  | _, _, 0, .cons _ t => .cons r t
  | _, _, i + 1, .cons q t => .cons q (Reps.set r i t)
theorem Reps.reverse : ∀ {vs : List V} {ds : List D}, Reps K ca W vs ds → Reps K ca W vs.reverse ds.reverse
  | _, _, .nil => .nil
  | _, _, .cons r t => by
    rw [List.reverse_cons, List.reverse_cons]
    exact (Reps.reverse t).append (.cons r .nil)
theorem RepF.look : ∀ {vs : List (Str × V)} {ds : Fs} {f : Str} {d : D}, RepF K ca W vs ds → ds.lookup f = some d → ∃ v, vs.lookup f = some v ∧ Rep K ca W v d
  | _, _, _, _, .nil, h => by simp at h
  | _, _, f, d, .cons (f := g) r t, h => by
    rw [List.lookup_cons] at h ⊢
    cases e : f == g with
    | true => rw [e] at h; cases h; exact ⟨_, rfl, r⟩
    | false => rw [e] at h; exact RepF.look t h
theorem RepF.none : ∀ {vs : List (Str × V)} {ds : Fs} {f : Str}, RepF K ca W vs ds → ds.lookup f = Option.none → vs.lookup f = Option.none
  | _, _, _, .nil, _ => rfl
  | _, _, f, .cons (f := g) r t, h => by
    rw [List.lookup_cons] at h ⊢
    cases e : f == g with
    | true => rw [e] at h; cases h
    | false => rw [e] at h; exact RepF.none t h
theorem RepF.length : ∀ {vs : List (Str × V)} {ds : Fs}, RepF K ca W vs ds → vs.length = ds.length
  | _, _, .nil => rfl
  | _, _, .cons _ t => by rw [List.length_cons, List.length_cons, RepF.length t]
/-- a field stored -/
def put (f : Str) (d : D) : Fs → Fs
  | [] => [(f, d)]
  | (g, e) :: r => if g = f then (f, d) :: r else (g, e) :: put f d r
end
end Mi

/-! MiJudge: slots, results, what is wanted behind a piece, the judgements. -/
namespace Mi
open PySem PySem.Spec PyProof.Rows L2

theorem RepF.put {K : PySem.W.Frag} {ca : Nat → Addr} {W : Wd} {f : Str} {v : V} {d : D} (r : Rep K ca W v d) : ∀ {vs : List (Str × V)} {ds : Fs}, RepF K ca W vs ds → RepF K ca W (putF f v vs) (Mi.put f d ds)
  | _, _, .nil => .cons r .nil
  | _, _, .cons (f := g) q t => by
    unfold putF Mi.put
    by_cases e : g = f
    · rw [if_pos e, if_pos e, e]; exact .cons r t
    · rw [if_neg e, if_neg e]; exact .cons q (RepF.put r t)

/-! ### slots -/
inductive Slot where
  | no | sh (d : D) | oL (ds : List D) | oI (c : Nat) (fs : Fs) | ex (c : Nat) (fs : Fs)
def Slot.isO : Slot → Bool
  | .oL _ => true
  | .oI _ _ => true
  | _ => false
abbrev En := List Slot
/-- slot i owns what lies at p -/
def Own (σ : L2.St) (env : En) (i : Nat) (p : Addr) : Prop := σ[i]? = some (some (.ref p)) ∧ ∃ s, env[i]? = some s ∧ s.isO = true

/-- .. an instance -/
def OwnI (σ : L2.St) (env : En) (i : Nat) (p : Addr) : Prop := σ[i]? = some (some (.ref p)) ∧ ∃ c fs, env[i]? = some (Slot.oI c fs)

/-- the exception that an except suite holds: its address, class, own dict -/
abbrev XC := Option (Addr × Value × Option Addr)
/-- the context of a judgement -/
structure Gx where
  X : Cx
  ca : Nat → Addr
  E : WX
  xc : XC

/-- what an exception bears -/
def RepX (K : PySem.W.Frag) (ca : Nat → Addr) (W : Wd) (fs : Fs) (d : Option Addr) : Prop :=
  (fs = [] ∧ d = none) ∨ ∃ p ws, d = some p ∧ ¬ W.av p ∧ W.h p = some (.xd ws) ∧ RepF K ca W ws fs
theorem RepX.kp {K : PySem.W.Frag} {ca : Nat → Addr} {W W' : Wd} {fs : Fs} {d : Option Addr} (r : RepX K ca W fs d) (e : Kp W W') : RepX K ca W' fs d := by
  rcases r with r | ⟨p, ws, h1, h2, h3, h4⟩
  · exact .inl r
  · exact .inr ⟨p, ws, h1, e.nav h2 h3, e.keep _ _ h2 h3, h4.kp e⟩

structure RepE (K : PySem.W.Frag) (ca : Nat → Addr) (xc : XC) (W : Wd) (σ : L2.St) (env : En) : Prop where
  len : σ.length = env.length
  sh : ∀ (i : Nat) (d : D), env[i]? = some (.sh d) → ∃ v, σ[i]? = some (some v) ∧ Rep K ca W v d
  oL : ∀ (i : Nat) (ds : List D), env[i]? = some (.oL ds) → ∃ p xs, σ[i]? = some (some (.ref p)) ∧ W.av p ∧ p ∉ W.g ∧ W.h p = some (.lst xs) ∧ Reps K ca W xs ds
  oI : ∀ (i c : Nat) (fs : Fs), env[i]? = some (.oI c fs) → ∃ p dx ws, σ[i]? = some (some (.ref p)) ∧ W.av p ∧ p ∉ W.g ∧ W.h p = some (.ins (ca c) dx ws) ∧ RepF K ca W ws fs
  ex : ∀ (i c : Nat) (fs : Fs), env[i]? = some (.ex c fs) → ∃ a d, xc = some (a, .ref (ca c), d) ∧ σ[i]? = some (some (.ref a)) ∧ RepX K ca W fs d
  sep : ∀ i j p, Own σ env i p → Own σ env j p → i = j

/-- a cell's content -/
def CellOk (K : PySem.W.Frag) (ca : Nat → Addr) (W : Wd) (p : Addr) : Cl → Prop
  | .lst ds => ∃ xs, W.h p = some (.lst xs) ∧ Reps K ca W xs ds
  | .ins c gs => ∃ dx fs, W.h p = some (.ins (ca c) dx fs) ∧ RepF K ca W fs gs
  | .dk kvs => ∃ ws, W.h p = some (.dK ws) ∧ Paired (fun (a : Key × V) (b : Key × D) => a.1 = b.1 ∧ Rep K ca W a.2 b.2) ws kvs
structure WOk (K : PySem.W.Frag) (ca : Nat → Addr) (W : Wd) (st : Sto) : Prop where
  nd : W.g.Nodup
  len : W.g.length = st.length
  cell : ∀ (n : Nat) (p : Addr) (c : Cl), W.g[n]? = some p → st[n]? = some c → CellOk K ca W p c

/-! ### results -/
inductive Res (α : Type) where
  | ok (a : α) (st : Sto) | exc (c : Nat) (fs : Fs) (st : Sto) | bad
abbrev M (α : Type) := Sto → Res α
def Res.bind {α β : Type} (r : Res α) (f : α → M β) : Res β := match r with
  | .ok a st => f a st
  | .exc c fs st => .exc c fs st
  | .bad => .bad
inductive SRes where
  | nx (env : En) (st : Sto) | rt (d : D) (st : Sto) | bk (env : En) (st : Sto) | ct (env : En) (st : Sto) | exc (env : En) (c : Nat) (fs : Fs) (st : Sto) | bad
abbrev EM := En → M D
abbrev TM := En → M Bool
abbrev AM := En → M (List D)
abbrev SM := En → Sto → SRes
/-- an expression's result goes on as a statement's -/
def Res.go {α : Type} (r : Res α) (env : En) (f : α → Sto → SRes) : SRes := match r with
  | .ok a st => f a st
  | .exc c fs st => .exc env c fs st
  | .bad => .bad

/-! ### worlds behind statements -/
structure ExtS (W : Wd) (σ : L2.St) (env : En) (W' : Wd) (σ' : L2.St) (env' : En) : Prop where
  keep : ∀ p o, ¬ W.av p → W.h p = some o → W'.h p = some o
  own : ∀ p, W.av p → p ∉ W.g → (∀ i, ¬ Own σ env i p) → W'.h p = W.h p ∧ W'.av p
  new : ∀ p, W'.av p → W.av p ∨ W.h p = none
  stay : ∀ p, W'.h p = none → W.h p = none
  pre : ∃ l, W'.g = W.g ++ l ∧ ∀ p ∈ l, W.h p = none
  owns : ∀ i p, Own σ' env' i p → (∃ j, Own σ env j p) ∨ W.h p = none
  ownI : ∀ i p, OwnI σ' env' i p → ∃ j, OwnI σ env j p
theorem ExtS.kp {W W' : Wd} {σ σ' : L2.St} {env env' : En} (e : ExtS W σ env W' σ' env') : Kp W W' := ⟨e.keep, e.new, e.stay, e.pre⟩
theorem Ext.s {W W' : Wd} (e : Ext W W') (σ : L2.St) (env : En) : ExtS W σ env W' σ env :=
  ⟨e.keep, fun p h n _ => ⟨e.own p h n, e.av p h⟩, e.new, e.stay, e.pre, fun i p h => .inl ⟨i, h⟩, fun i p h => ⟨i, h⟩⟩
theorem ExtS.trans {W W1 W2 : Wd} {σ σ1 σ2 : L2.St} {env env1 env2 : En} (a : ExtS W σ env W1 σ1 env1) (b : ExtS W1 σ1 env1 W2 σ2 env2) : ExtS W σ env W2 σ2 env2 := by
  have k := a.kp.trans b.kp
  refine ⟨k.keep, fun p h n no => ?_, k.new, k.stay, k.pre, fun i p h => ?_, fun i p h => let ⟨j, h⟩ := b.ownI i p h; a.ownI j p h⟩
  · obtain ⟨h1, v1⟩ := a.own p h n no
    obtain ⟨h2, v2⟩ := b.own p v1 (a.kp.nocell h n) fun i z => by
      rcases a.owns i p z with ⟨j, z⟩ | z
      · exact no j z
      · exact W.trk p h z
    exact ⟨h2.trans h1, v2⟩
  · rcases b.owns i p h with ⟨j, z⟩ | z
    · exact a.owns j p z
    · exact .inr (a.stay p z)
/-- at a body's entry nothing is owned by a slot: behind it the world has grown -/
theorem ExtS.ext {W W' : Wd} {σ σ' : L2.St} {env env' : En} (e : ExtS W σ env W' σ' env') (no : ∀ i p, ¬ Own σ env i p) : Ext W W' :=
  ⟨e.keep, fun p h n => (e.own p h n fun i => no i p).1, fun p h => by
    by_cases n : p ∈ W.g
    · obtain ⟨l, q, _⟩ := e.pre
      exact W'.gav p (by rw [q]; exact List.mem_append_left _ n)
    · exact (e.own p h n fun i => no i p).2, e.new, e.stay, e.pre⟩

section
variable {K : PySem.W.Frag} {ca : Nat → Addr} {xc : XC} {W W' : Wd} {σ : L2.St} {env : En}
theorem RepE.mono (r : RepE K ca xc W σ env) (e : Ext W W') : RepE K ca xc W' σ env where
  len := r.len
  sh := fun i d h => let ⟨v, h1, h2⟩ := r.sh i d h; ⟨v, h1, h2.mono e⟩
  oL := fun i ds h => by
    obtain ⟨p, xs, h1, h2, h3, h4, h5⟩ := r.oL i ds h
    exact ⟨p, xs, h1, e.av p h2, e.kp.nocell h2 h3, (e.own p h2 h3).trans h4, h5.mono e⟩
  oI := fun i c fs h => by
    obtain ⟨p, dx, ws, h1, h2, h3, h4, h5⟩ := r.oI i c fs h
    exact ⟨p, dx, ws, h1, e.av p h2, e.kp.nocell h2 h3, (e.own p h2 h3).trans h4, h5.mono e⟩
  ex := fun i c fs h => by
    obtain ⟨a, d, h1, h2, h3⟩ := r.ex i c fs h
    exact ⟨a, d, h1, h2, h3.kp e.kp⟩
  sep := r.sep
end

/-! ### what is wanted behind -/
section
variable (G : Gx)
def Post (W : Wd) (σ : L2.St) (r : Res D) (Q : VK) : Prop := match r with
  | .ok d st => ∀ v W', Ext W W' → WOk G.X.K G.ca W' st → Rep G.X.K G.ca W' v d → Q v W'.h
  | .exc c fs st => ∀ dd W', Ext W W' → WOk G.X.K G.ca W' st → RepX G.X.K G.ca W' fs dd → G.E (.ref (G.ca c)) dd σ W'.h
  | .bad => False
def PostT (W : Wd) (σ : L2.St) (r : Res Bool) (Q : Bool → Hp → Prop) : Prop := match r with
  | .ok b st => ∀ W', Ext W W' → WOk G.X.K G.ca W' st → Q b W'.h
  | .exc c fs st => ∀ dd W', Ext W W' → WOk G.X.K G.ca W' st → RepX G.X.K G.ca W' fs dd → G.E (.ref (G.ca c)) dd σ W'.h
  | .bad => False
def PostA (W : Wd) (σ : L2.St) (r : Res (List D)) (Q : List V → Hp → Prop) : Prop := match r with
  | .ok ds st => ∀ vs W', Ext W W' → WOk G.X.K G.ca W' st → Reps G.X.K G.ca W' vs ds → Q vs W'.h
  | .exc c fs st => ∀ dd W', Ext W W' → WOk G.X.K G.ca W' st → RepX G.X.K G.ca W' fs dd → G.E (.ref (G.ca c)) dd σ W'.h
  | .bad => False
/-- a new list of these items, owned by none yet -/
def PostL (W : Wd) (σ : L2.St) (r : Res (List D)) (Q : VK) : Prop := match r with
  | .ok ds st => ∀ p xs W', Ext W W' → W.h p = none → W'.av p → p ∉ W'.g → W'.h p = some (.lst xs) → WOk G.X.K G.ca W' st → Reps G.X.K G.ca W' xs ds → Q (.ref p) W'.h
  | .exc c fs st => ∀ dd W', Ext W W' → WOk G.X.K G.ca W' st → RepX G.X.K G.ca W' fs dd → G.E (.ref (G.ca c)) dd σ W'.h
  | .bad => False
def PostS (W : Wd) (σ : L2.St) (env : En) (r : SRes) (Dn : Ends) : Prop := match r with
  | .nx env' st => ∀ σ' W', ExtS W σ env W' σ' env' → WOk G.X.K G.ca W' st → RepE G.X.K G.ca G.xc W' σ' env' → Dn.nx σ' W'.h
  | .bk env' st => ∀ σ' W', ExtS W σ env W' σ' env' → WOk G.X.K G.ca W' st → RepE G.X.K G.ca G.xc W' σ' env' → Dn.bk σ' W'.h
  | .ct env' st => ∀ σ' W', ExtS W σ env W' σ' env' → WOk G.X.K G.ca W' st → RepE G.X.K G.ca G.xc W' σ' env' → Dn.ct σ' W'.h
  | .rt d st => ∀ v W', ExtS W σ env W' [] [] → WOk G.X.K G.ca W' st → Rep G.X.K G.ca W' v d → Dn.rt v W'.h
  | .exc env' c fs st => ∀ σ' dd W', ExtS W σ env W' σ' env' → WOk G.X.K G.ca W' st → RepE G.X.K G.ca G.xc W' σ' env' → RepX G.X.K G.ca W' fs dd → G.E (.ref (G.ca c)) dd σ' W'.h
  | .bad => False

/-! ### what a piece of syntax must bring: the machine's own words -/
def QE (e : Expr) (σ : L2.St) (H : Hp) (Q : VK) : Prop := ∀ pins s, Inv G.X pins σ H s → wpAny (model G.X.prog G.X.w) G.X.A (eval e G.X.env) (EP G.X pins σ Q) G.X.xe s
def QT (e : Expr) (σ : L2.St) (H : Hp) (Q : Bool → Hp → Prop) : Prop := ∀ pins s, Inv G.X pins σ H s → wpAny (model G.X.prog G.X.w) G.X.A (isTrue e G.X.env (eval e G.X.env)) (TP G.X pins σ Q) G.X.xe s
def QW (e : Expr) (σ : L2.St) (H : Hp) (Q : Bool → Hp → Prop) : Prop := ∀ whole pins s, Inv G.X pins σ H s → wpAny (model G.X.prog G.X.w) G.X.A (isTrue e G.X.env whole) (TP G.X pins σ Q) G.X.xe s
def QA (es : List Expr) (σ : L2.St) (H : Hp) (Q : List V → Hp → Prop) : Prop := ∀ pos pins s, Inv G.X pins σ H s → wpAny (model G.X.prog G.X.w) G.X.A (spliced (backTo pos (starEach es G.X.env))) (AP G.X pins σ Q) G.X.xe s
def QS (st : Stmt) (Dn : Ends) (σ : L2.St) (H : Hp) : Prop := ∀ pins s, Inv G.X pins σ H s → wpAny (model G.X.prog G.X.w) G.X.A (exec st G.X.env) (SP G.X pins Dn) G.X.xe s
def QSs (st : List Stmt) (Dn : Ends) (σ : L2.St) (H : Hp) : Prop := ∀ pins s, Inv G.X pins σ H s → wpAny (model G.X.prog G.X.w) G.X.A (execs st G.X.env) (SP G.X pins Dn) G.X.xe s
def QI (tg iter : Expr) (σ : L2.St) (H : Hp) (R : It → Hp → Prop) : Prop := ∀ pins s, Inv G.X pins σ H s →
  wpAny (model G.X.prog G.X.w) G.X.A (eval iter G.X.env) (fun v s1 => wpAny (model G.X.prog G.X.w) G.X.A (pyIter v) (PIE G.X pins σ tg R) G.X.xe s1) G.X.xe s
/-- by values -/
def QO (f : Value → Value → Sem Value) (σ : L2.St) (x y : V) (H : Hp) (Q : VK) : Prop := ∀ pins s v u, Inv G.X pins σ H s → RelV x v → RelV y u → wpAny (model G.X.prog G.X.w) G.X.A (f v u) (EP G.X pins σ Q) G.X.xe s
def QU (f : Value → Sem Value) (σ : L2.St) (x : V) (H : Hp) (Q : VK) : Prop := ∀ pins s v, Inv G.X pins σ H s → RelV x v → wpAny (model G.X.prog G.X.w) G.X.A (f v) (EP G.X pins σ Q) G.X.xe s
def QC (f : Value) (σ : L2.St) (xs : List V) (H : Hp) (Q : VK) : Prop := ∀ pins s us, Inv G.X pins σ H s → Vals xs us → wpAny (model G.X.prog G.X.w) G.X.A (call f us) (EP G.X pins σ Q) G.X.xe s
def QTr (σ : L2.St) (x : V) (H : Hp) (Q : Bool → Hp → Prop) : Prop := ∀ pins s v, Inv G.X pins σ H s → RelV x v → wpAny (model G.X.prog G.X.w) G.X.A (truthy v) (TP G.X pins σ Q) G.X.xe s
end
section
variable {G : Gx} {e : Expr} {es : List Expr} {σ : L2.St} {H : Hp} {Q : VK} {st : Stmt} {sts : List Stmt}
theorem pe_q : PE G.X e (QE G e) := ⟨fun pins s _ _ _ I h => h pins s I⟩
theorem pt_q : PT G.X e (QT G e) := ⟨fun pins s _ _ _ I h => h pins s I⟩
theorem pw_q : PW G.X e (QW G e) := ⟨fun whole pins s _ _ _ I h => h whole pins s I⟩
theorem pa_q : PA G.X es (QA G es) := ⟨fun pos pins s _ _ _ I h => h pos pins s I⟩
theorem ps_q : PS G.X st (QS G st) := ⟨fun pins s _ _ _ I h => h pins s I⟩
theorem pss_q : PSs G.X sts (QSs G sts) := ⟨fun pins s _ _ _ I h => h pins s I⟩
theorem pi_q {tg iter : Expr} : PI G.X tg iter (QI G tg iter) := ⟨fun pins s _ _ _ I h => h pins s I⟩
theorem qe_of {t : TE} (h : PE G.X e t) (q : t σ H Q) : QE G e σ H Q := fun pins s I => h.run pins s σ H Q I q
theorem qt_of {t : TT} {Q : Bool → Hp → Prop} (h : PT G.X e t) (q : t σ H Q) : QT G e σ H Q := fun pins s I => h.run pins s σ H Q I q
theorem qw_of {t : TT} {Q : Bool → Hp → Prop} (h : PW G.X e t) (q : t σ H Q) : QW G e σ H Q := fun whole pins s I => h.run whole pins s σ H Q I q
theorem QW.t {Q : Bool → Hp → Prop} (h : QW G e σ H Q) : QT G e σ H Q := h _
theorem qa_of {t : TA} {Q : List V → Hp → Prop} (h : PA G.X es t) (q : t σ H Q) : QA G es σ H Q := fun pos pins s I => h.run pos pins s σ H Q I q
theorem qs_of {t : TS} {Dn : Ends} (h : PS G.X st t) (q : t Dn σ H) : QS G st Dn σ H := fun pins s I => h.run pins s σ H Dn I q
theorem qss_of {t : TS} {Dn : Ends} (h : PSs G.X sts t) (q : t Dn σ H) : QSs G sts Dn σ H := fun pins s I => h.run pins s σ H Dn I q
theorem qi_of {tg iter : Expr} {wi : TI} {R : It → Hp → Prop} (h : PI G.X tg iter wi) (q : wi σ H R) : QI G tg iter σ H R := fun pins s I => h.run pins s σ H R I q
theorem qo_of {f : Value → Value → Sem Value} {r : R2} {x y : V} (h : OpR G.X f r) (q : r x y H Q) : QO G f σ x y H Q := fun pins s v u I rx ry => h pins s σ H x y v u Q I rx ry q
theorem qu_of {f : Value → Sem Value} {r : V → Hp → VK → Prop} {x : V} (h : UnR G.X f r) (q : r x H Q) : QU G f σ x H Q := fun pins s v I rx => h pins s σ H x v Q I rx q
theorem qc_of {f : Value} {r : List V → Hp → VK → Prop} {xs : List V} (h : CallR G.X f r) (q : r xs H Q) : QC G f σ xs H Q := fun pins s us I rx => h pins s σ H xs us Q I rx q
theorem qtr_of {r : V → Hp → (Bool → Hp → Prop) → Prop} {x : V} {Q : Bool → Hp → Prop} (h : TruR G.X r) (q : r x H Q) : QTr G σ x H Q := fun pins s v I rx => h pins s σ H x v Q I rx q
theorem QE.mono {Q' : VK} (h : QE G e σ H Q) (k : ∀ v H', Q v H' → Q' v H') : QE G e σ H Q' := fun pins s I => thn (h pins s I) fun _ _ ⟨v, H', I', r, q⟩ => ⟨v, H', I', r, k v H' q⟩
end

/-! ### the judgements -/
section
variable (G : Gx)
def RE (e : Expr) (m : EM) : Prop := ∀ σ W env st Q, WOk G.X.K G.ca W st → RepE G.X.K G.ca G.xc W σ env → Post G W σ (m env st) Q → QE G e σ W.h Q
def RL (e : Expr) (m : AM) : Prop := ∀ σ W env st Q, WOk G.X.K G.ca W st → RepE G.X.K G.ca G.xc W σ env → PostL G W σ (m env st) Q → QE G e σ W.h Q
def RT (e : Expr) (m : TM) : Prop := ∀ σ W env st Q, WOk G.X.K G.ca W st → RepE G.X.K G.ca G.xc W σ env → PostT G W σ (m env st) Q → QT G e σ W.h Q
def RW (e : Expr) (m : TM) : Prop := ∀ σ W env st Q, WOk G.X.K G.ca W st → RepE G.X.K G.ca G.xc W σ env → PostT G W σ (m env st) Q → QW G e σ W.h Q
def RA (es : List Expr) (m : AM) : Prop := ∀ σ W env st Q, WOk G.X.K G.ca W st → RepE G.X.K G.ca G.xc W σ env → PostA G W σ (m env st) Q → QA G es σ W.h Q
def RS (s : Stmt) (m : SM) : Prop := ∀ σ W env st Dn, WOk G.X.K G.ca W st → RepE G.X.K G.ca G.xc W σ env → PostS G W σ env (m env st) Dn → QS G s Dn σ W.h
def RSs (s : List Stmt) (m : SM) : Prop := ∀ σ W env st Dn, WOk G.X.K G.ca W st → RepE G.X.K G.ca G.xc W σ env → PostS G W σ env (m env st) Dn → QSs G s Dn σ W.h
end
theorem RW.t {G : Gx} {e : Expr} {m : TM} (h : RW G e m) : RT G e m := fun σ W env st Q a b c => (h σ W env st Q a b c).t

/-! ### posts along a longer way -/
section
variable {G : Gx} {W W1 : Wd} {σ : L2.St} {Q : VK}
theorem Post.mono {r : Res D} (e : Ext W W1) (h : Post G W σ r Q) : Post G W1 σ r Q := by
  cases r with
  | ok d st => exact fun v W' x => h v W' (e.trans x)
  | exc c fs st => exact fun dd W' x => h dd W' (e.trans x)
  | bad => exact h
theorem PostT.mono {r : Res Bool} {Q : Bool → Hp → Prop} (e : Ext W W1) (h : PostT G W σ r Q) : PostT G W1 σ r Q := by
  cases r with
  | ok d st => exact fun W' x => h W' (e.trans x)
  | exc c fs st => exact fun dd W' x => h dd W' (e.trans x)
  | bad => exact h
theorem PostA.mono {r : Res (List D)} {Q : List V → Hp → Prop} (e : Ext W W1) (h : PostA G W σ r Q) : PostA G W1 σ r Q := by
  cases r with
  | ok d st => exact fun v W' x => h v W' (e.trans x)
  | exc c fs st => exact fun dd W' x => h dd W' (e.trans x)
  | bad => exact h
theorem PostL.mono {r : Res (List D)} (e : Ext W W1) (h : PostL G W σ r Q) : PostL G W1 σ r Q := by
  cases r with
  | ok d st => exact fun p xs W' x n => h p xs W' (e.trans x) (e.stay p n)
  | exc c fs st => exact fun dd W' x => h dd W' (e.trans x)
  | bad => exact h
theorem PostS.mono {σ1 : L2.St} {env env1 : En} {r : SRes} {Dn : Ends} (e : ExtS W σ env W1 σ1 env1) (h : PostS G W σ env r Dn) : PostS G W1 σ1 env1 r Dn := by
  cases r with
  | nx env' st => exact fun σ' W' x => h σ' W' (e.trans x)
  | bk env' st => exact fun σ' W' x => h σ' W' (e.trans x)
  | ct env' st => exact fun σ' W' x => h σ' W' (e.trans x)
  | rt d st => exact fun v W' x => h v W' (e.trans x)
  | exc env' c fs st => exact fun σ' dd W' x => h σ' dd W' (e.trans x)
  | bad => exact h
end
end Mi

/-! MiRules: one rule a construct. -/
namespace Mi
open PySem PySem.Spec PyProof.Rows L2
section
variable {G : Gx} {W : Wd} {σ : L2.St}
theorem bindEE {r : Res D} {f : D → M D} {Q : VK} {Q1 : VK} (h : Post G W σ (r.bind f) Q) (k : ∀ (d : D) (s1 : Sto) (v : V) (W2 : Wd), Ext W W2 → WOk G.X.K G.ca W2 s1 → Rep G.X.K G.ca W2 v d → Post G W2 σ (f d s1) Q → Q1 v W2.h) : Post G W σ r Q1 := by
  cases r with
  | ok d s1 => exact fun v W2 e w r => k d s1 v W2 e w r (Post.mono e h)
  | exc c fs s1 => exact h
  | bad => exact h
theorem bindET {r : Res D} {f : D → M Bool} {Q : (Bool → Hp → Prop)} {Q1 : VK} (h : PostT G W σ (r.bind f) Q) (k : ∀ (d : D) (s1 : Sto) (v : V) (W2 : Wd), Ext W W2 → WOk G.X.K G.ca W2 s1 → Rep G.X.K G.ca W2 v d → PostT G W2 σ (f d s1) Q → Q1 v W2.h) : Post G W σ r Q1 := by
  cases r with
  | ok d s1 => exact fun v W2 e w r => k d s1 v W2 e w r (PostT.mono e h)
  | exc c fs s1 => exact h
  | bad => exact h
theorem bindEA {r : Res D} {f : D → M (List D)} {Q : (List V → Hp → Prop)} {Q1 : VK} (h : PostA G W σ (r.bind f) Q) (k : ∀ (d : D) (s1 : Sto) (v : V) (W2 : Wd), Ext W W2 → WOk G.X.K G.ca W2 s1 → Rep G.X.K G.ca W2 v d → PostA G W2 σ (f d s1) Q → Q1 v W2.h) : Post G W σ r Q1 := by
  cases r with
  | ok d s1 => exact fun v W2 e w r => k d s1 v W2 e w r (PostA.mono e h)
  | exc c fs s1 => exact h
  | bad => exact h
theorem bindEL {r : Res D} {f : D → M (List D)} {Q : VK} {Q1 : VK} (h : PostL G W σ (r.bind f) Q) (k : ∀ (d : D) (s1 : Sto) (v : V) (W2 : Wd), Ext W W2 → WOk G.X.K G.ca W2 s1 → Rep G.X.K G.ca W2 v d → PostL G W2 σ (f d s1) Q → Q1 v W2.h) : Post G W σ r Q1 := by
  cases r with
  | ok d s1 => exact fun v W2 e w r => k d s1 v W2 e w r (PostL.mono e h)
  | exc c fs s1 => exact h
  | bad => exact h
theorem bindES {r : Res D} {f : D → Sto → SRes} {env : En} {Dn : Ends} {Q1 : VK} (re : RepE G.X.K G.ca G.xc W σ env) (h : PostS G W σ env (r.go env f) Dn) (k : ∀ (d : D) (s1 : Sto) (v : V) (W2 : Wd), Ext W W2 → WOk G.X.K G.ca W2 s1 → Rep G.X.K G.ca W2 v d → RepE G.X.K G.ca G.xc W2 σ env → PostS G W2 σ env (f d s1) Dn → Q1 v W2.h) : Post G W σ r Q1 := by
  cases r with
  | ok d s1 => exact fun v W2 e w r => k d s1 v W2 e w r (re.mono e) (PostS.mono (e.s σ env) h)
  | exc c fs s1 => exact fun dd W2 e w x => h σ dd W2 (e.s σ env) w (re.mono e) x
  | bad => exact h
theorem bindTE {r : Res Bool} {f : Bool → M D} {Q : VK} {Q1 : Bool → Hp → Prop} (h : Post G W σ (r.bind f) Q) (k : ∀ (d : Bool) (s1 : Sto) (W2 : Wd), Ext W W2 → WOk G.X.K G.ca W2 s1 → Post G W2 σ (f d s1) Q → Q1 d W2.h) : PostT G W σ r Q1 := by
  cases r with
  | ok d s1 => exact fun W2 e w => k d s1 W2 e w (Post.mono e h)
  | exc c fs s1 => exact h
  | bad => exact h
theorem bindTT {r : Res Bool} {f : Bool → M Bool} {Q : (Bool → Hp → Prop)} {Q1 : Bool → Hp → Prop} (h : PostT G W σ (r.bind f) Q) (k : ∀ (d : Bool) (s1 : Sto) (W2 : Wd), Ext W W2 → WOk G.X.K G.ca W2 s1 → PostT G W2 σ (f d s1) Q → Q1 d W2.h) : PostT G W σ r Q1 := by
  cases r with
  | ok d s1 => exact fun W2 e w => k d s1 W2 e w (PostT.mono e h)
  | exc c fs s1 => exact h
  | bad => exact h
theorem bindTA {r : Res Bool} {f : Bool → M (List D)} {Q : (List V → Hp → Prop)} {Q1 : Bool → Hp → Prop} (h : PostA G W σ (r.bind f) Q) (k : ∀ (d : Bool) (s1 : Sto) (W2 : Wd), Ext W W2 → WOk G.X.K G.ca W2 s1 → PostA G W2 σ (f d s1) Q → Q1 d W2.h) : PostT G W σ r Q1 := by
  cases r with
  | ok d s1 => exact fun W2 e w => k d s1 W2 e w (PostA.mono e h)
  | exc c fs s1 => exact h
  | bad => exact h
theorem bindTL {r : Res Bool} {f : Bool → M (List D)} {Q : VK} {Q1 : Bool → Hp → Prop} (h : PostL G W σ (r.bind f) Q) (k : ∀ (d : Bool) (s1 : Sto) (W2 : Wd), Ext W W2 → WOk G.X.K G.ca W2 s1 → PostL G W2 σ (f d s1) Q → Q1 d W2.h) : PostT G W σ r Q1 := by
  cases r with
  | ok d s1 => exact fun W2 e w => k d s1 W2 e w (PostL.mono e h)
  | exc c fs s1 => exact h
  | bad => exact h
theorem bindTS {r : Res Bool} {f : Bool → Sto → SRes} {env : En} {Dn : Ends} {Q1 : Bool → Hp → Prop} (re : RepE G.X.K G.ca G.xc W σ env) (h : PostS G W σ env (r.go env f) Dn) (k : ∀ (d : Bool) (s1 : Sto) (W2 : Wd), Ext W W2 → WOk G.X.K G.ca W2 s1 → RepE G.X.K G.ca G.xc W2 σ env → PostS G W2 σ env (f d s1) Dn → Q1 d W2.h) : PostT G W σ r Q1 := by
  cases r with
  | ok d s1 => exact fun W2 e w => k d s1 W2 e w (re.mono e) (PostS.mono (e.s σ env) h)
  | exc c fs s1 => exact fun dd W2 e w x => h σ dd W2 (e.s σ env) w (re.mono e) x
  | bad => exact h
theorem bindAE {r : Res (List D)} {f : (List D) → M D} {Q : VK} {Q1 : List V → Hp → Prop} (h : Post G W σ (r.bind f) Q) (k : ∀ (d : (List D)) (s1 : Sto) (v : List V) (W2 : Wd), Ext W W2 → WOk G.X.K G.ca W2 s1 → Reps G.X.K G.ca W2 v d → Post G W2 σ (f d s1) Q → Q1 v W2.h) : PostA G W σ r Q1 := by
  cases r with
  | ok d s1 => exact fun v W2 e w r => k d s1 v W2 e w r (Post.mono e h)
  | exc c fs s1 => exact h
  | bad => exact h
theorem bindAT {r : Res (List D)} {f : (List D) → M Bool} {Q : (Bool → Hp → Prop)} {Q1 : List V → Hp → Prop} (h : PostT G W σ (r.bind f) Q) (k : ∀ (d : (List D)) (s1 : Sto) (v : List V) (W2 : Wd), Ext W W2 → WOk G.X.K G.ca W2 s1 → Reps G.X.K G.ca W2 v d → PostT G W2 σ (f d s1) Q → Q1 v W2.h) : PostA G W σ r Q1 := by
  cases r with
  | ok d s1 => exact fun v W2 e w r => k d s1 v W2 e w r (PostT.mono e h)
  | exc c fs s1 => exact h
  | bad => exact h
theorem bindAA {r : Res (List D)} {f : (List D) → M (List D)} {Q : (List V → Hp → Prop)} {Q1 : List V → Hp → Prop} (h : PostA G W σ (r.bind f) Q) (k : ∀ (d : (List D)) (s1 : Sto) (v : List V) (W2 : Wd), Ext W W2 → WOk G.X.K G.ca W2 s1 → Reps G.X.K G.ca W2 v d → PostA G W2 σ (f d s1) Q → Q1 v W2.h) : PostA G W σ r Q1 := by
  cases r with
  | ok d s1 => exact fun v W2 e w r => k d s1 v W2 e w r (PostA.mono e h)
  | exc c fs s1 => exact h
  | bad => exact h
theorem bindAL {r : Res (List D)} {f : (List D) → M (List D)} {Q : VK} {Q1 : List V → Hp → Prop} (h : PostL G W σ (r.bind f) Q) (k : ∀ (d : (List D)) (s1 : Sto) (v : List V) (W2 : Wd), Ext W W2 → WOk G.X.K G.ca W2 s1 → Reps G.X.K G.ca W2 v d → PostL G W2 σ (f d s1) Q → Q1 v W2.h) : PostA G W σ r Q1 := by
  cases r with
  | ok d s1 => exact fun v W2 e w r => k d s1 v W2 e w r (PostL.mono e h)
  | exc c fs s1 => exact h
  | bad => exact h
theorem bindAS {r : Res (List D)} {f : (List D) → Sto → SRes} {env : En} {Dn : Ends} {Q1 : List V → Hp → Prop} (re : RepE G.X.K G.ca G.xc W σ env) (h : PostS G W σ env (r.go env f) Dn) (k : ∀ (d : (List D)) (s1 : Sto) (v : List V) (W2 : Wd), Ext W W2 → WOk G.X.K G.ca W2 s1 → Reps G.X.K G.ca W2 v d → RepE G.X.K G.ca G.xc W2 σ env → PostS G W2 σ env (f d s1) Dn → Q1 v W2.h) : PostA G W σ r Q1 := by
  cases r with
  | ok d s1 => exact fun v W2 e w r => k d s1 v W2 e w r (re.mono e) (PostS.mono (e.s σ env) h)
  | exc c fs s1 => exact fun dd W2 e w x => h σ dd W2 (e.s σ env) w (re.mono e) x
  | bad => exact h
end

/-! ### names, constants -/
def eVar (i : Nat) : EM := fun env st => match env[i]? with
  | some (.sh d) => .ok d st
  | _ => .bad
def eC (d : D) : EM := fun _ st => .ok d st
section
variable {G : Gx} {e a b c : Expr} {es : List Expr} {pos : Pos}
theorem re_var {i : Nat} (h : PE G.X e (tVar i)) : RE G e (eVar i) := by
  intro σ W env st Q w re p
  refine qe_of h ?_
  unfold eVar at p
  split at p
  · rename_i d hd
    obtain ⟨v, h1, h2⟩ := re.sh i d hd
    exact ⟨v, h1, p v W (Ext.refl W) w h2⟩
  · exact p.elim
theorem re_c {v : V} {d : D} (h : PE G.X e (tC v)) (r : ∀ W, Rep G.X.K G.ca W v d) : RE G e (eC d) := by
  intro σ W env st Q w re p
  exact qe_of h (p v W (Ext.refl W) w (r W))
theorem re_int {i : Int} {j : Nat} : RE G (.Constant (.int i) j pos) (eC (.int i)) := re_c pe_int fun _ => .int i
theorem re_bl {b : Bool} {j : Nat} : RE G (.Constant (.bool b) j pos) (eC (.bl b)) := re_c pe_bl fun _ => .bl b
theorem re_non {j : Nat} : RE G (.Constant .none j pos) (eC .non) := re_c pe_non fun _ => .non
theorem re_str {x : Str} {j : Nat} : RE G (.Constant (.str x) j pos) (eC (.str x)) := re_c pe_str fun _ => .str x

/-! ### operators, by values -/
def OpD (G : Gx) (fv : Value → Value → Sem Value) (f : D → D → M D) : Prop := ∀ σ W st x y dx dy Q, WOk G.X.K G.ca W st → Rep G.X.K G.ca W x dx → Rep G.X.K G.ca W y dy → Post G W σ (f dx dy st) Q → QO G fv σ x y W.h Q
def UnD (G : Gx) (fv : Value → Sem Value) (f : D → M D) : Prop := ∀ σ W st x dx Q, WOk G.X.K G.ca W st → Rep G.X.K G.ca W x dx → Post G W σ (f dx st) Q → QU G fv σ x W.h Q
def TrD (G : Gx) (f : D → M Bool) : Prop := ∀ σ W st x dx Q, WOk G.X.K G.ca W st → Rep G.X.K G.ca W x dx → PostT G W σ (f dx st) Q → QTr G σ x W.h Q
def CallD (G : Gx) (fv : Value) (f : List D → M D) : Prop := ∀ σ W st xs ds Q, WOk G.X.K G.ca W st → Reps G.X.K G.ca W xs ds → Post G W σ (f ds st) Q → QC G fv σ xs W.h Q

def eOp (f : D → D → M D) (a b : EM) : EM := fun env st => (a env st).bind fun x s1 => (b env s1).bind fun y s2 => f x y s2
def eUn (f : D → M D) (a : EM) : EM := fun env st => (a env st).bind f
variable {ma mb mc : EM} {f : D → D → M D}
/-- two operands, then something by their values -/
theorem two {R : V → V → Hp → Prop} {σ : L2.St} {W : Wd} {env : En} {st : Sto} {Q : VK} (ha : RE G a ma) (hb : RE G b mb) (w : WOk G.X.K G.ca W st) (re : RepE G.X.K G.ca G.xc W σ env) (p : Post G W σ (eOp f ma mb env st) Q)
    (k : ∀ x y dx dy W2 s2, WOk G.X.K G.ca W2 s2 → Rep G.X.K G.ca W2 x dx → Rep G.X.K G.ca W2 y dy → Post G W2 σ (f dx dy s2) Q → R x y W2.h) :
    QE G a σ W.h fun x H1 => QE G b σ H1 fun y H2 => R x y H2 := by
  refine ha σ W env st _ w re (bindEE p fun dx s1 x W1 e1 w1 r1 p1 => ?_)
  refine hb σ W1 env s1 _ w1 (re.mono e1) (bindEE p1 fun dy s2 y W2 e2 w2 r2 p2 => ?_)
  exact k x y dx dy W2 s2 w2 (r1.mono e2) r2 p2
theorem two_run {R : V → V → Hp → Prop} {σ : L2.St} {H : Hp} (h : QE G a σ H fun x H1 => QE G b σ H1 fun y H2 => R x y H2) {pins : List (Addr × Obj)} {s : Shared} (I : Inv G.X pins σ H s) {α : Type} {fv : Value → Value → Sem α} {Q : α → Shared → Prop}
    (k : ∀ v u s2 x y H2, Inv G.X pins σ H2 s2 → RelV x v → RelV y u → R x y H2 → wpAny (model G.X.prog G.X.w) G.X.A (fv v u) Q G.X.xe s2) :
    wpAny (model G.X.prog G.X.w) G.X.A (eval a G.X.env) (fun v s₁ => wpAny (model G.X.prog G.X.w) G.X.A (eval b G.X.env) (fun u s₂ => wpAny (model G.X.prog G.X.w) G.X.A (fv v u) Q G.X.xe s₂) G.X.xe s₁) G.X.xe s := by
  refine thn (h pins s I) fun v s1 hv => ?_
  obtain ⟨x, H1, I1, r1, q1⟩ := hv
  refine thn (q1 pins s1 I1) fun u s2 hu => ?_
  obtain ⟨y, H2, I2, r2, q2⟩ := hu
  exact k v u s2 x y H2 I2 r1 r2 q2
theorem re_bin {op : Operator} (ho : OpD G (binaryOp op) f) (ha : RE G a ma) (hb : RE G b mb) : RE G (.BinOp a op b pos) (eOp f ma mb) := by
  intro σ W env st Q w re p pins s I
  refine wpAny_BinOp (two_run (R := fun x y H => QO G (binaryOp op) σ x y H Q) (two ha hb w re p fun x y dx dy W2 s2 w2 r1 r2 p2 => ho σ W2 s2 x y dx dy Q w2 r1 r2 p2) I fun v u s2 x y H2 I2 rx ry q => ?_)
  exact q pins s2 v u I2 rx ry
theorem re_cmp {op : CmpOp} (ho : OpD G (compareOp op) f) (ha : RE G a ma) (hb : RE G b mb) (hm : behindInMarks op b = false := by first | exact nomark _ | rfl) : RE G (.Compare a [op] [b] pos) (eOp f ma mb) := by
  intro σ W env st Q w re p pins s I
  refine wpAny_Compare1 (two_run (R := fun x y H => QO G (compareOp op) σ x y H Q) (two ha hb w re p fun x y dx dy W2 s2 w2 r1 r2 p2 => ho σ W2 s2 x y dx dy Q w2 r1 r2 p2) I fun v u s2 x y H2 I2 rx ry q => ?_) hm
  exact q pins s2 v u I2 rx ry
theorem re_un {op : UnaryOp} {f : D → M D} (ho : UnD G (unaryOp op) f) (ha : RE G a ma) : RE G (.UnaryOp op a pos) (eUn f ma) := by
  intro σ W env st Q w re p pins s I
  refine UnaryOp_ (thn (ha σ W env st (fun x H => QU G (unaryOp op) σ x H Q) w re (bindEE p fun dx s1 x W1 e1 w1 r1 p1 => ho σ W1 s1 x dx Q w1 r1 p1) pins s I) fun v s1 hv => ?_)
  obtain ⟨x, H1, I1, r1, q1⟩ := hv
  exact q1 pins s1 v I1 r1

/-! ### tests -/
def tVal (t : D → M Bool) (a : EM) : TM := fun env st => (a env st).bind t
def tNotM (a : TM) : TM := fun env st => (a env st).bind fun b s => .ok (!b) s
def tAndM (a b : TM) : TM := fun env st => (a env st).bind fun x s => if x = true then b env s else .ok false s
def tOrM (a b : TM) : TM := fun env st => (a env st).bind fun x s => if x = true then .ok true s else b env s
variable {ta tb : TM} {t : D → M Bool}
/-- the truth of a plain expression's value -/
theorem rt_val (ht : TrD G t) (ha : RE G a ma) (he : ∀ whole, isTrue a G.X.env whole = (do let v ← whole; standAt a.pos; holding [v] (truthy v)) := by intro _; rfl) : RT G a (tVal t ma) := by
  intro σ W env st Q w re p pins s I
  refine isTrue_plain (thn (ha σ W env st (fun x H => QTr G σ x H Q) w re (bindET p fun dx s1 x W1 e1 w1 r1 p1 => ht σ W1 s1 x dx Q w1 r1 p1) pins s I) fun v s1 hv => ?_) (he _)
  obtain ⟨x, H1, I1, r1, q1⟩ := hv
  exact q1 pins s1 v I1 r1
/-- a comparison as a test -/
theorem rt_cmp {op : CmpOp} (ht : TrD G t) (ho : OpD G (compareOp op) f) (ha : RE G a ma) (hb : RE G b mb) (hm : behindInMarks op b = false := by first | exact nomark _ | rfl) : RT G (.Compare a [op] [b] pos) (tVal t (eOp f ma mb)) := by
  intro σ W env st Q w re p pins s I
  have p' : Post G W σ (eOp f ma mb env st) (fun x H => QTr G σ x H Q) := bindET p fun dx s1 x W1 e1 w1 r1 p1 => ht σ W1 s1 x dx Q w1 r1 p1
  refine wpAny_isTrue_Compare1 (two_run (R := fun x y H => QO G (compareOp op) σ x y H (fun x H => QTr G σ x H Q)) (two ha hb w re p' fun x y dx dy W2 s2 w2 r1 r2 p2 => ho σ W2 s2 x y dx dy _ w2 r1 r2 p2) I fun v u s2 x y H2 I2 rx ry q => ?_) hm
  refine thn (q pins s2 v u I2 rx ry) fun c s3 hc => ?_
  obtain ⟨z, H3, I3, r3, q3⟩ := hc
  exact q3 pins s3 c I3 r3
theorem rt_not (ha : RT G a ta) : RT G (.UnaryOp .Not a pos) (tNotM ta) := by
  intro σ W env st Q w re p
  refine qt_of (pt_not pt_q) ?_
  exact ha σ W env st _ w re (bindTT p fun x s1 W1 e1 w1 p1 => p1 W1 (Ext.refl W1) w1)
theorem rw_and1 (ha : RT G a ta) : RW G (.BoolOp .And [a] pos) ta := by
  intro σ W env st Q w re p
  exact qw_of (pw_and1 pt_q) (ha σ W env st _ w re p)
theorem rw_or1 (ha : RT G a ta) : RW G (.BoolOp .Or [a] pos) ta := by
  intro σ W env st Q w re p
  exact qw_of (pw_or1 pt_q) (ha σ W env st _ w re p)
theorem rw_and {rest : List Expr} (ha : RT G a ta) (hb : RW G (.BoolOp .And (b :: rest) pos) tb) : RW G (.BoolOp .And (a :: b :: rest) pos) (tAndM ta tb) := by
  intro σ W env st Q w re p
  refine qw_of (pw_and pt_q pw_q) ?_
  refine ha σ W env st _ w re (bindTT p fun x s1 W1 e1 w1 p1 => ?_)
  cases x with
  | true => rw [if_pos rfl] at p1 ⊢; exact hb σ W1 env s1 Q w1 (re.mono e1) p1
  | false => rw [if_neg Bool.false_ne_true] at p1 ⊢; exact p1 W1 (Ext.refl W1) w1
theorem rw_or {rest : List Expr} (ha : RT G a ta) (hb : RW G (.BoolOp .Or (b :: rest) pos) tb) : RW G (.BoolOp .Or (a :: b :: rest) pos) (tOrM ta tb) := by
  intro σ W env st Q w re p
  refine qw_of (pw_or pt_q pw_q) ?_
  refine ha σ W env st _ w re (bindTT p fun x s1 W1 e1 w1 p1 => ?_)
  cases x with
  | true => rw [if_pos rfl] at p1 ⊢; exact p1 W1 (Ext.refl W1) w1
  | false => rw [if_neg Bool.false_ne_true] at p1 ⊢; exact hb σ W1 env s1 Q w1 (re.mono e1) p1

/-! ### and, or, not, if-else as values -/
def eAnd (t : D → M Bool) (a b : EM) : EM := fun env st => (a env st).bind fun x s => (t x s).bind fun k s2 => if k = true then b env s2 else .ok x s2
def eOr (t : D → M Bool) (a b : EM) : EM := fun env st => (a env st).bind fun x s => (t x s).bind fun k s2 => if k = true then .ok x s2 else b env s2
def eNot (t : D → M Bool) (a : EM) : EM := fun env st => (a env st).bind fun x s => (t x s).bind fun k s2 => .ok (.bl (!k)) s2
def eIf (c : TM) (a b : EM) : EM := fun env st => (c env st).bind fun k s => if k = true then a env s else b env s
theorem re_one {op : BoolOp} (ha : RE G a ma) : RE G (.BoolOp op [a] pos) ma := by
  intro σ W env st Q w re p
  exact qe_of (pe_one pe_q) (ha σ W env st Q w re p)
theorem re_and {rest : List Expr} (ht : TrD G t) (ha : RE G a ma) (hb : RE G (.BoolOp .And (b :: rest) pos) mb) : RE G (.BoolOp .And (a :: b :: rest) pos) (eAnd t ma mb) := by
  intro σ W env st Q w re p pins s I
  refine BoolOp_and (thn (ha σ W env st (fun x H => QTr G σ x H fun k H2 => if k = true then QE G (.BoolOp .And (b :: rest) pos) σ H2 Q else Q x H2) w re (bindEE p fun dx s1 x W1 e1 w1 r1 p1 => ?_) pins s I) fun v s1 hv => ?_)
  · refine ht σ W1 s1 x dx _ w1 r1 (bindTE p1 fun k s2 W2 e2 w2 p2 => ?_)
    cases k with
    | true => rw [if_pos rfl] at p2 ⊢; exact hb σ W2 env s2 Q w2 ((re.mono e1).mono e2) p2
    | false => rw [if_neg Bool.false_ne_true] at p2 ⊢; exact p2 x W2 (Ext.refl W2) w2 (r1.mono e2)
  · obtain ⟨x, H1, I1, r1, q1⟩ := hv
    refine thn (q1 pins s1 v I1 r1) fun k s2 hk => ?_
    obtain ⟨H2, I2, q2⟩ := hk
    cases k with
    | true => rw [if_pos rfl] at q2; exact q2 pins s2 I2
    | false => rw [if_neg Bool.false_ne_true] at q2; exact ⟨x, H2, I2, r1, q2⟩
theorem re_or {rest : List Expr} (ht : TrD G t) (ha : RE G a ma) (hb : RE G (.BoolOp .Or (b :: rest) pos) mb) : RE G (.BoolOp .Or (a :: b :: rest) pos) (eOr t ma mb) := by
  intro σ W env st Q w re p pins s I
  refine BoolOp_or (thn (ha σ W env st (fun x H => QTr G σ x H fun k H2 => if k = true then Q x H2 else QE G (.BoolOp .Or (b :: rest) pos) σ H2 Q) w re (bindEE p fun dx s1 x W1 e1 w1 r1 p1 => ?_) pins s I) fun v s1 hv => ?_)
  · refine ht σ W1 s1 x dx _ w1 r1 (bindTE p1 fun k s2 W2 e2 w2 p2 => ?_)
    cases k with
    | true => rw [if_pos rfl] at p2 ⊢; exact p2 x W2 (Ext.refl W2) w2 (r1.mono e2)
    | false => rw [if_neg Bool.false_ne_true] at p2 ⊢; exact hb σ W2 env s2 Q w2 ((re.mono e1).mono e2) p2
  · obtain ⟨x, H1, I1, r1, q1⟩ := hv
    refine thn (q1 pins s1 v I1 r1) fun k s2 hk => ?_
    obtain ⟨H2, I2, q2⟩ := hk
    cases k with
    | true => rw [if_pos rfl] at q2; exact ⟨x, H2, I2, r1, q2⟩
    | false => rw [if_neg Bool.false_ne_true] at q2; exact q2 pins s2 I2
theorem re_not (ht : TrD G t) (ha : RE G a ma) : RE G (.UnaryOp .Not a pos) (eNot t ma) := by
  intro σ W env st Q w re p pins s I
  refine UnaryOp_ (thn (ha σ W env st (fun x H => QTr G σ x H fun k H2 => Q (.bl (!k)) H2) w re (bindEE p fun dx s1 x W1 e1 w1 r1 p1 => ?_) pins s I) fun v s1 hv => ?_)
  · exact ht σ W1 s1 x dx _ w1 r1 (bindTE p1 fun k s2 W2 e2 w2 p2 => p2 _ W2 (Ext.refl W2) w2 (.bl _))
  · obtain ⟨x, H1, I1, r1, q1⟩ := hv
    refine not_of (thn (q1 pins s1 v I1 r1) fun k s2 hk => ?_)
    obtain ⟨H2, I2, q2⟩ := hk
    exact ⟨.bl (!k), H2, I2, rfl, q2⟩
theorem re_ifExp (hc : RT G c ta) (ha : RE G a ma) (hb : RE G b mb) : RE G (.IfExp c a b pos) (eIf ta ma mb) := by
  intro σ W env st Q w re p
  refine qe_of (pe_ifExp pt_q pe_q pe_q) ?_
  refine hc σ W env st _ w re (bindTE p fun x s1 W1 e1 w1 p1 => ?_)
  cases x with
  | true => rw [if_pos rfl] at p1 ⊢; exact ha σ W1 env s1 Q w1 (re.mono e1) p1
  | false => rw [if_neg Bool.false_ne_true] at p1 ⊢; exact hb σ W1 env s1 Q w1 (re.mono e1) p1

/-! ### argument lists, displays -/
def aNil : AM := fun _ st => .ok [] st
def aCons (a : EM) (r : AM) : AM := fun env st => (a env st).bind fun x s => (r env s).bind fun xs s2 => .ok (x :: xs) s2
variable {aa : AM}
theorem ra_nil : RA G [] aNil := by
  intro σ W env st Q w re p
  exact qa_of pa_nil (p [] W (Ext.refl W) w .nil)
theorem ra_cons (ha : RE G e ma) (hr : RA G es aa) (hs : starEach (e :: es) G.X.env = (false, eval e G.X.env) :: starEach es G.X.env := by rfl) : RA G (e :: es) (aCons ma aa) := by
  intro σ W env st Q w re p
  refine qa_of (pa_cons pe_q pa_q hs) ?_
  refine ha σ W env st _ w re (bindEA p fun dx s1 x W1 e1 w1 r1 p1 => ?_)
  refine hr σ W1 env s1 _ w1 (re.mono e1) (bindAA p1 fun ds s2 vs W2 e2 w2 r2 p2 => ?_)
  exact p2 (x :: vs) W2 (Ext.refl W2) w2 (.cons (r1.mono e2) r2)
end

/-! ### new objects in a world -/
/-- a new tree at p -/
def Wd.lay (W : Wd) (p : Addr) (o : HO) (hp : W.h p = none) : Wd where
  av := W.av
  g := W.g
  h := upd W.h p o
  trk := fun q h => by
    by_cases e : q = p
    · subst e; exact absurd hp (W.trk q h)
    · rw [upd_ne e]; exact W.trk q h
  gav := W.gav
theorem Wd.lay_ext (W : Wd) {p : Addr} {o : HO} (hp : W.h p = none) : Ext W (W.lay p o hp) where
  keep := fun q u _ h => by
    show upd W.h p o q = some u
    rw [upd_ne (ne_of_none h hp)]
    exact h
  own := fun q h _ => by
    show upd W.h p o q = W.h q
    have ne : q ≠ p := fun e => by subst e; exact W.trk q h hp
    rw [upd_ne ne]
  av := fun _ h => h
  new := fun _ h => .inl h
  stay := fun q h => by
    by_cases e : q = p
    · rw [e]; exact hp
    · have h : upd W.h p o q = none := h
      rw [upd_ne e] at h
      exact h
  pre := ⟨[], by show W.g = W.g ++ []; simp, fun _ h => by simp at h⟩
theorem CellOk.mono {K : PySem.W.Frag} {ca : Nat → Addr} {W W' : Wd} {p : Addr} {c : Cl} (e : Ext W W') (hh : W'.h p = W.h p) (h : CellOk K ca W p c) : CellOk K ca W' p c := by
  cases c with
  | lst ds =>
    obtain ⟨xs, h1, h2⟩ := h
    exact ⟨xs, hh.trans h1, h2.mono e⟩
  | ins c gs =>
    obtain ⟨dx, fs, h1, h2⟩ := h
    exact ⟨dx, fs, hh.trans h1, h2.mono e⟩
  | dk kvs =>
    obtain ⟨ws, h1, h2⟩ := h
    exact ⟨ws, hh.trans h1, Paired.mapP h2 fun a b z => ⟨z.1, z.2.mono e⟩⟩
/-- no cell is touched -/
theorem WOk.same {K : PySem.W.Frag} {ca : Nat → Addr} {W W' : Wd} {st : Sto} (w : WOk K ca W st) (e : Ext W W') (hg : W'.g = W.g) (hh : ∀ p ∈ W.g, W'.h p = W.h p) : WOk K ca W' st where
  nd := by rw [hg]; exact w.nd
  len := by rw [hg]; exact w.len
  cell := fun n p c h1 h2 => by
    rw [hg] at h1
    exact (w.cell n p c h1 h2).mono e (hh p (List.mem_of_getElem? h1))
theorem WOk.lay {K : PySem.W.Frag} {ca : Nat → Addr} {W : Wd} {st : Sto} (w : WOk K ca W st) {p : Addr} {o : HO} (hp : W.h p = none) : WOk K ca (W.lay p o hp) st :=
  w.same (W.lay_ext hp) rfl fun q hq => by
    show upd W.h p o q = W.h q
    have ne : q ≠ p := fun e => by subst e; exact W.trk q (W.gav q hq) hp
    rw [upd_ne ne]
theorem Wd.lay_nav (W : Wd) {p : Addr} {o : HO} (hp : W.h p = none) : ¬ (W.lay p o hp).av p := fun h => W.trk p h hp
/-! ### worlds written -/
/-- what lies at p is written anew -/
def Wd.wr (W : Wd) (p : Addr) (o : HO) (hp : W.h p ≠ none) : Wd where
  av := W.av
  g := W.g
  h := upd W.h p o
  trk := fun q h => by
    by_cases e : q = p
    · subst e; rw [upd_same]; exact fun z => by cases z
    · rw [upd_ne e]; exact W.trk q h
  gav := W.gav
/-- p is owned from now on -/
def Wd.own (W : Wd) (p : Addr) (hp : W.h p ≠ none) : Wd where
  av := fun q => W.av q ∨ q = p
  g := W.g
  h := W.h
  trk := fun q h => by
    rcases h with h | h
    · exact W.trk q h
    · subst h; exact hp
  gav := fun q h => .inl (W.gav q h)
/-- p is owned no more -/
def Wd.drop (W : Wd) (p : Addr) (hp : p ∉ W.g) : Wd where
  av := fun q => W.av q ∧ q ≠ p
  g := W.g
  h := W.h
  trk := fun q h => W.trk q h.1
  gav := fun q h => ⟨W.gav q h, fun e => by subst e; exact hp h⟩
/-- p is a cell from now on -/
def Wd.cel (W : Wd) (p : Addr) (hp : W.h p ≠ none) : Wd where
  av := fun q => W.av q ∨ q = p
  g := W.g ++ [p]
  h := W.h
  trk := fun q h => by
    rcases h with h | h
    · exact W.trk q h
    · subst h; exact hp
  gav := fun q h => by
    rcases List.mem_append.mp h with h | h
    · exact .inl (W.gav q h)
    · exact .inr (by simpa using h)
theorem CellOk.kp {K : PySem.W.Frag} {ca : Nat → Addr} {W W' : Wd} {p : Addr} {c : Cl} (e : Kp W W') (hh : W'.h p = W.h p) (h : CellOk K ca W p c) : CellOk K ca W' p c := by
  cases c with
  | lst ds =>
    obtain ⟨xs, h1, h2⟩ := h
    exact ⟨xs, hh.trans h1, h2.kp e⟩
  | ins c gs =>
    obtain ⟨dx, fs, h1, h2⟩ := h
    exact ⟨dx, fs, hh.trans h1, h2.kp e⟩
  | dk kvs =>
    obtain ⟨ws, h1, h2⟩ := h
    exact ⟨ws, hh.trans h1, Paired.mapP h2 fun a b z => ⟨z.1, z.2.kp e⟩⟩
theorem WOk.kp {K : PySem.W.Frag} {ca : Nat → Addr} {W W' : Wd} {st : Sto} (w : WOk K ca W st) (e : Kp W W') (hg : W'.g = W.g) (hh : ∀ p ∈ W.g, W'.h p = W.h p) : WOk K ca W' st where
  nd := by rw [hg]; exact w.nd
  len := by rw [hg]; exact w.len
  cell := fun n p c h1 h2 => by
    rw [hg] at h1
    exact (w.cell n p c h1 h2).kp e (hh p (List.mem_of_getElem? h1))
section
variable {K : PySem.W.Frag} {ca : Nat → Addr} {W : Wd} {st : Sto} {p : Addr}
theorem Wd.own_kp (W : Wd) {p : Addr} (hp : W.h p ≠ none) {W0 : Wd} (e : Kp W0 W) (n : W0.h p = none) : Kp W0 (W.own p hp) where
  keep := e.keep
  new := fun q h => by
    rcases h with h | h
    · exact e.new q h
    · subst h; exact .inr n
  stay := e.stay
  pre := e.pre
theorem Wd.drop_kp (W : Wd) {p : Addr} (hp : p ∉ W.g) : Kp W (W.drop p hp) where
  keep := fun _ _ _ h => h
  new := fun q h => .inl h.1
  stay := fun _ h => h
  pre := ⟨[], by show W.g = W.g ++ []; simp, fun _ h => by simp at h⟩
theorem WOk.drop (w : WOk K ca W st) (hp : p ∉ W.g) : WOk K ca (W.drop p hp) st := w.kp (W.drop_kp hp) rfl fun _ _ => rfl
/-- a new thing that is owned: seen from the world before it came -/
theorem Wd.own_ext {W W1 : Wd} {p : Addr} (e : Ext W W1) (n : W.h p = none) (hp : W1.h p ≠ none) : Ext W (W1.own p hp) where
  keep := e.keep
  own := e.own
  av := fun q h => .inl (e.av q h)
  new := fun q h => by
    rcases h with h | h
    · exact e.new q h
    · subst h; exact .inr n
  stay := e.stay
  pre := e.pre
theorem Wd.drop_ext {W W1 : Wd} {p : Addr} (e : Ext W W1) (n : W.h p = none) (hp : p ∉ W1.g) : Ext W (W1.drop p hp) where
  keep := e.keep
  own := e.own
  av := fun q h => ⟨e.av q h, fun z => by subst z; exact W.trk q h n⟩
  new := fun q h => e.new q h.1
  stay := e.stay
  pre := e.pre
theorem WOk.own (w : WOk K ca W st) {p : Addr} {o : HO} (hn : W.h p = none) (hp : (W.lay p o hn).h p ≠ none) : WOk K ca ((W.lay p o hn).own p hp) st :=
  w.same (Wd.own_ext (W.lay_ext hn) hn hp) rfl fun q hq => by
    show upd W.h p o q = W.h q
    rw [upd_ne (fun e => by subst e; exact W.trk q (W.gav q hq) hn)]
end
/-- sizes that a display bears -/
abbrev LIM : Nat := 16777216
theorem lim_le {n : Nat} (h : n ≤ LIM) : n ≤ sizeLine := by rw [sizeLine_eq]; exact h
theorem lim_lt {n : Nat} (h : n < LIM) : n < sizeLine := by rw [sizeLine_eq]; exact h

def eTup (a : AM) : EM := fun env st => (a env st).bind fun xs s => if xs.length ≤ LIM then .ok (.tup xs) s else .bad
def lLst (a : AM) : AM := fun env st => (a env st).bind fun xs s => if xs.length ≤ LIM then .ok xs s else .bad
/-- a new list as a tree -/
def eL (a : AM) : EM := fun env st => (a env st).bind fun xs s => .ok (.lst xs) s
section
variable {G : Gx} {e a b c : Expr} {es : List Expr} {pos : Pos} {aa : AM}
theorem re_tup {k : Nat} (ha : RA G es aa) : RE G (.Tuple es k pos) (eTup aa) := by
  intro σ W env st Q w re p
  refine qe_of (pe_tup pa_q) ?_
  refine ha σ W env st _ w re (bindAE p fun ds s1 vs W1 e1 w1 r1 p1 => ?_)
  split at p1
  · rename_i hl
    refine ⟨lim_le (by rw [r1.length]; exact hl), fun q hq => ?_⟩
    exact p1 (.ref q) (W1.lay q (.tup vs) hq) (W1.lay_ext hq) (w1.lay hq) (.tup (W1.lay_nav hq) (.inl upd_same) (r1.mono (W1.lay_ext hq)))
  · exact p1.elim
theorem rl_lst (ha : RA G es aa) : RL G (.List es pos) (lLst aa) := by
  intro σ W env st Q w re p
  refine qe_of (pe_lst pa_q) ?_
  refine ha σ W env st _ w re (bindAL p fun ds s1 vs W1 e1 w1 r1 p1 => ?_)
  split at p1
  · rename_i hl
    refine ⟨lim_le (by rw [r1.length]; exact hl), fun q hq => ?_⟩
    have hp : (W1.lay q (.lst vs) hq).h q ≠ none := by
      show upd W1.h q (.lst vs) q ≠ none
      rw [upd_same]; exact fun z => by cases z
    have x := Wd.own_ext (W1.lay_ext (o := .lst vs) hq) hq hp
    exact p1 q vs ((W1.lay q (.lst vs) hq).own q hp) x hq (.inr rfl) (fun z => W1.trk q (W1.gav q z) hq) upd_same (w1.own hq hp) (r1.mono x)
  · exact p1.elim
/-- a new list as a tree -/
theorem re_l {m : AM} (h : RL G e m) : RE G e (eL m) := by
  intro σ W env st Q w re p
  refine h σ W env st Q w re ?_
  unfold eL at p
  cases hm : m env st with
  | ok ds s1 =>
    rw [hm] at p
    exact fun q xs W' e1 n _ ng hh w1 r1 => p (.ref q) (W'.drop q ng) (Wd.drop_ext e1 n ng) (w1.drop ng) (.lst (fun z => z.2 rfl) hh (r1.kp (W'.drop_kp ng)))
  | exc c fs s1 => rw [hm] at p; exact p
  | bad => rw [hm] at p; exact p
end
end Mi

/-! MiStmt: slots stored, statements, loops. -/
namespace Mi
open PySem PySem.Spec PyProof.Rows L2

/-! ### slots stored -/
theorem Own.set_sh {σ : L2.St} {env : En} {i j : Nat} {x : Option V} {s : Slot} {p : Addr} (hs : s.isO = false) (h : Own (σ.set i x) (env.set i s) j p) : j ≠ i ∧ Own σ env j p := by
  obtain ⟨h1, t, h2, h3⟩ := h
  have hne : j ≠ i := fun e => by
    subst e
    by_cases hj : j < env.length
    · rw [List.getElem?_set_self hj] at h2
      cases h2
      rw [hs] at h3
      cases h3
    · rw [List.getElem?_eq_none (by simpa using hj)] at h2
      cases h2
  rw [List.getElem?_set_ne (Ne.symm hne)] at h1 h2
  exact ⟨hne, h1, t, h2, h3⟩
theorem OwnI.set_sh {σ : L2.St} {env : En} {i j : Nat} {x : Option V} {s : Slot} {p : Addr} (hs : s.isO = false) (h : OwnI (σ.set i x) (env.set i s) j p) : OwnI σ env j p := by
  obtain ⟨h1, c, fs, h2⟩ := h
  have hne := (Own.set_sh (σ := σ) (env := env) (i := i) (j := j) (x := x) (p := p) hs ⟨h1, _, h2, rfl⟩).1
  rw [List.getElem?_set_ne (Ne.symm hne)] at h1 h2
  exact ⟨h1, c, fs, h2⟩
section
variable {K : PySem.W.Frag} {ca : Nat → Addr} {xc : XC} {W : Wd} {σ : L2.St} {env : En}
/-- a slot stored: a shared value, nothing, the suite's exception -/
theorem RepE.put {i : Nat} {x : Option V} {s : Slot} (r : RepE K ca xc W σ env) (hs : s.isO = false) (hv : ∀ d, s = .sh d → ∃ v, x = some v ∧ Rep K ca W v d)
    (hx : ∀ c fs, s = .ex c fs → ∃ a d, xc = some (a, .ref (ca c), d) ∧ x = some (.ref a) ∧ RepX K ca W fs d) : RepE K ca xc W (σ.set i x) (env.set i s) where
  len := by rw [List.length_set, List.length_set, r.len]
  sh := fun j d h => by
    by_cases e : i = j
    · subst e
      by_cases hj : i < env.length
      · rw [List.getElem?_set_self hj] at h
        obtain ⟨v, h1, h2⟩ := hv d (Option.some.inj h)
        exact ⟨v, by rw [List.getElem?_set_self (by rw [r.len]; exact hj), h1], h2⟩
      · rw [List.getElem?_eq_none (by simpa using hj)] at h
        cases h
    · rw [List.getElem?_set_ne e] at h ⊢
      exact r.sh j d h
  oL := fun j ds h => by
    by_cases e : i = j
    · subst e
      by_cases hj : i < env.length
      · rw [List.getElem?_set_self hj] at h
        cases h
        cases hs
      · rw [List.getElem?_eq_none (by simpa using hj)] at h
        cases h
    · rw [List.getElem?_set_ne e] at h ⊢
      exact r.oL j ds h
  oI := fun j c fs h => by
    by_cases e : i = j
    · subst e
      by_cases hj : i < env.length
      · rw [List.getElem?_set_self hj] at h
        cases h
        cases hs
      · rw [List.getElem?_eq_none (by simpa using hj)] at h
        cases h
    · rw [List.getElem?_set_ne e] at h ⊢
      exact r.oI j c fs h
  ex := fun j c fs h => by
    by_cases e : i = j
    · subst e
      by_cases hj : i < env.length
      · rw [List.getElem?_set_self hj] at h
        obtain ⟨a, d, h1, h2, h3⟩ := hx c fs (Option.some.inj h)
        exact ⟨a, d, h1, by rw [List.getElem?_set_self (by rw [r.len]; exact hj), h2], h3⟩
      · rw [List.getElem?_eq_none (by simpa using hj)] at h
        cases h
    · rw [List.getElem?_set_ne e] at h ⊢
      exact r.ex j c fs h
  sep := fun a b p h1 h2 => r.sep a b p (Own.set_sh hs h1).2 (Own.set_sh hs h2).2
theorem RepE.set {i : Nat} {v : V} {d : D} (r : RepE K ca xc W σ env) (h : Rep K ca W v d) : RepE K ca xc W (σ.set i (some v)) (env.set i (.sh d)) :=
  r.put rfl (fun d' e => by cases e; exact ⟨v, rfl, h⟩) fun c fs e => by cases e
theorem RepE.wipe1 {i : Nat} {x : Option V} (r : RepE K ca xc W σ env) : RepE K ca xc W (σ.set i x) (env.set i .no) :=
  r.put rfl (fun d' e => by cases e) fun c fs e => by cases e
theorem ExtS.refl (W : Wd) (σ : L2.St) (env : En) : ExtS W σ env W σ env := (Ext.refl W).s σ env
theorem ExtS.set (W : Wd) (σ : L2.St) (env : En) {i : Nat} {x : Option V} {s : Slot} (hs : s.isO = false) : ExtS W σ env W (σ.set i x) (env.set i s) :=
  ⟨fun _ _ _ h => h, fun p h _ _ => ⟨rfl, h⟩, fun _ h => .inl h, fun _ h => h, ⟨[], by simp, fun _ h => by simp at h⟩, fun j p h => .inl ⟨j, (Own.set_sh hs h).2⟩, fun j p h => ⟨j, OwnI.set_sh hs h⟩⟩
/-- a def is left -/
theorem Ext.r {W W' : Wd} (e : Ext W W') (σ : L2.St) (env : En) : ExtS W σ env W' [] [] :=
  ⟨e.keep, fun p h n _ => ⟨e.own p h n, e.av p h⟩, e.new, e.stay, e.pre, (fun i p h => by obtain ⟨h, _⟩ := h; simp at h), (fun i p h => by obtain ⟨h, _⟩ := h; simp at h)⟩
end

/-! ### blocks, small statements -/
def sNil : SM := fun env st => .nx env st
def sSeq (a b : SM) : SM := fun env st => match a env st with
  | .nx env' st' => b env' st'
  | r => r
def sExpr (a : EM) : SM := fun env st => (a env st).go env fun _ s => .nx env s
def sRet (a : EM) : SM := fun env st => (a env st).go env fun d s => .rt d s
def sRetN : SM := fun _ st => .rt .non st
def sSet (i : Nat) (a : EM) : SM := fun env st => (a env st).go env fun d s => .nx (env.set i (.sh d)) s
def sIf (c : TM) (a b : SM) : SM := fun env st => (c env st).go env fun k s => if k = true then a env s else b env s
def sBrk : SM := fun env st => .bk env st
def sCnt : SM := fun env st => .ct env st
section
variable {G : Gx} {e : Expr} {s : Stmt} {rest ss us : List Stmt} {pos pos' : Pos} {ma : EM} {m n : SM} {tc : TM}
theorem rss_nil : RSs G [] sNil := by
  intro σ W env st Dn w re p
  exact qss_of pss_nil (p σ W (ExtS.refl W σ env) w re)
theorem rss_cons (h1 : RS G s m) (h2 : RSs G rest n) : RSs G (s :: rest) (sSeq m n) := by
  intro σ W env st Dn w re p
  refine qss_of (pss_cons ps_q pss_q) ?_
  show QS G s { Dn with nx := QSs G rest Dn } σ W.h
  refine h1 σ W env st _ w re ?_
  unfold sSeq at p
  cases hm : m env st with
  | nx env' st' =>
    rw [hm] at p
    exact fun σ' W' e w' re' => h2 σ' W' env' st' Dn w' re' (PostS.mono e p)
  | rt d st' => rw [hm] at p; exact p
  | bk env' st' => rw [hm] at p; exact p
  | ct env' st' => rw [hm] at p; exact p
  | exc env' c fs st' => rw [hm] at p; exact p
  | bad => rw [hm] at p; exact p
theorem rss_one (h1 : RS G s m) : RSs G [s] m := by
  intro σ W env st Dn w re p
  exact qss_of (pss_one ps_q) (h1 σ W env st Dn w re p)
theorem rs_pass : RS G (.Pass pos) sNil := by
  intro σ W env st Dn w re p
  exact qs_of ps_pass (p σ W (ExtS.refl W σ env) w re)
theorem rs_break : RS G (.Break pos) sBrk := by
  intro σ W env st Dn w re p
  exact qs_of ps_break (p σ W (ExtS.refl W σ env) w re)
theorem rs_continue : RS G (.Continue pos) sCnt := by
  intro σ W env st Dn w re p
  exact qs_of ps_continue (p σ W (ExtS.refl W σ env) w re)
theorem rs_expr (ha : RE G e ma) (hs : swapsWith e none pos.line G.X.env = pure false := by rfl) : RS G (.Expr e pos) (sExpr ma) := by
  intro σ W env st Dn w re p
  refine qs_of (ps_expr pe_q hs) ?_
  exact ha σ W env st _ w re (bindES re p fun d s1 v W1 e1 w1 r1 re1 p1 => p1 σ W1 (ExtS.refl W1 σ env) w1 re1)
theorem rs_ret (ha : RE G e ma) : RS G (.Return (some e) pos) (sRet ma) := by
  intro σ W env st Dn w re p
  refine qs_of (ps_ret pe_q) ?_
  exact ha σ W env st _ w re (bindES re p fun d s1 v W1 e1 w1 r1 re1 p1 => p1 v W1 ((Ext.refl W1).r σ env) w1 r1)
theorem rs_retN : RS G (.Return none pos) sRetN := by
  intro σ W env st Dn w re p
  exact qs_of ps_retN (p .non W ((Ext.refl W).r σ env) w .non)
theorem rs_set {i : Nat} {x : Str} (hN : G.X.N.Nodup) (hi : G.X.N[i]? = some x) (hx : Loc G.X.env.scope x) (ha : RE G e ma) (hs : swapsWith e (some (.Name x pos')) pos.line G.X.env = pure false := by rfl)
    (hf : G.X.fn x = true ∨ G.X.env.scope.names.lookup x = some .local := by first | exact .inl rfl | exact .inr rfl | assumption) : RS G (.Assign [.Name x pos'] e pos) (sSet i ma) := by
  intro σ W env st Dn w re p
  refine qs_of (ps_set hN hi hx pe_q hs hf) ?_
  exact ha σ W env st _ w re (bindES re p fun d s1 v W1 e1 w1 r1 re1 p1 => p1 (σ.set i (some v)) W1 (ExtS.set W1 σ env rfl) w1 (re1.set r1))
theorem rs_if (hc : RT G e tc) (ha : RSs G ss m) (hb : RSs G us n) : RS G (.If e ss us pos) (sIf tc m n) := by
  intro σ W env st Dn w re p
  refine qs_of (ps_if pt_q pss_q pss_q) ?_
  refine hc σ W env st _ w re (bindTS re p fun k s1 W1 e1 w1 re1 p1 => ?_)
  cases k with
  | true => rw [if_pos rfl] at p1 ⊢; exact ha σ W1 env s1 Dn w1 re1 p1
  | false => rw [if_neg Bool.false_ne_true] at p1 ⊢; exact hb σ W1 env s1 Dn w1 re1 p1
end

/-! ### targets -/
abbrev TgM := D → En → Option En
def gN (i : Nat) : TgM := fun d env => some (env.set i (.sh d))
def gTs : List TgM → List D → En → Option En
  | [], [], env => some env
  | t :: ts, d :: ds, env => (t d env).bind (gTs ts ds)
  | _, _, _ => none
def gT (ts : List TgM) : TgM := fun d env => match d with
  | .tup ds => gTs ts ds env
  | _ => none
/-- two states that differ at most at these slots -/
def Dif (js : List Nat) (σ σ' : L2.St) : Prop := σ'.length = σ.length ∧ ∀ k, k ∉ js → σ'[k]? = σ[k]?
theorem Dif.refl {js : List Nat} {σ : L2.St} : Dif js σ σ := ⟨rfl, fun _ _ => rfl⟩
theorem Dif.trans {js : List Nat} {σ σ1 σ2 : L2.St} (a : Dif js σ σ1) (b : Dif js σ1 σ2) : Dif js σ σ2 := ⟨b.1.trans a.1, fun k h => (b.2 k h).trans (a.2 k h)⟩
theorem Dif.mono {js ks : List Nat} {σ σ' : L2.St} (h : ∀ j ∈ js, j ∈ ks) (a : Dif js σ σ') : Dif ks σ σ' := ⟨a.1, fun k n => a.2 k fun z => n (h k z)⟩
def QG (G : Gx) (tg : Expr) (v : V) (σ : L2.St) (H : Hp) (Q : L2.St → Hp → Prop) : Prop := ∀ pins s u, Inv G.X pins σ H s → RelV v u →
  wpAny (model G.X.prog G.X.w) G.X.A (assign tg G.X.env u) (fun _ s' => ∃ σ' H', Inv G.X pins σ' H' s' ∧ Q σ' H') G.X.xe s
theorem pg_q {G : Gx} {tg : Expr} : PG G.X tg (QG G tg) := ⟨fun pins s _ _ _ u _ I r h => h pins s u I r⟩
theorem qg_of {G : Gx} {tg : Expr} {t : TG} {v : V} {σ : L2.St} {H : Hp} {Q : L2.St → Hp → Prop} (h : PG G.X tg t) (q : t v σ H Q) : QG G tg v σ H Q := fun pins s u I r => h.run pins s σ H v u Q I r q
def PostG (G : Gx) (W : Wd) (σ : L2.St) (env : En) (js : List Nat) (r : Option En) (Q : L2.St → Hp → Prop) : Prop := match r with
  | some env' => ∀ σ', Dif js σ σ' → ExtS W σ env W σ' env' → RepE G.X.K G.ca G.xc W σ' env' → Q σ' W.h
  | none => False
def RG (G : Gx) (tg : Expr) (js : List Nat) (m : TgM) : Prop := ∀ σ W env v d Q, RepE G.X.K G.ca G.xc W σ env → Rep G.X.K G.ca W v d → PostG G W σ env js (m d env) Q → QG G tg v σ W.h Q
def RGs (G : Gx) (ts : List Expr) (js : List Nat) (ms : List TgM) : Prop := ∀ σ W env vs ds Q, RepE G.X.K G.ca G.xc W σ env → Reps G.X.K G.ca W vs ds → PostG G W σ env js (gTs ms ds env) Q →
  ∃ t, PGs G.X ts t ∧ t vs σ W.h Q
section
variable {G : Gx} {e : Expr} {es : List Expr} {pos : Pos} {js : List Nat} {mt : TgM} {ms : List TgM}
theorem rg_name {i : Nat} {x : Str} (hN : G.X.N.Nodup) (hi : G.X.N[i]? = some x) (hx : Loc G.X.env.scope x) (hj : i ∈ js) (hf : G.X.fn x = true ∨ G.X.env.scope.names.lookup x = some .local := by first | exact .inl rfl | exact .inr rfl | assumption) : RG G (.Name x pos) js (gN i) := by
  intro σ W env v d Q re r p
  refine qg_of (pg_name hN hi hx hf) ?_
  refine p (σ.set i (some v)) ⟨by simp, fun k hk => ?_⟩ (ExtS.set W σ env rfl) (re.set r)
  have ne : i ≠ k := fun z => by subst z; exact hk hj
  rw [List.getElem?_set_ne ne]
theorem rgs_nil : RGs G [] js [] := by
  intro σ W env vs ds Q re r p
  cases r with
  | nil => exact ⟨gNil, pgs_nil, rfl, p σ Dif.refl (ExtS.refl W σ env) re⟩
  | cons _ _ => exact p.elim
theorem rgs_cons (h1 : RG G e js mt) (h2 : RGs G es js ms) (hs : (assignEach (e :: es) G.X.env).map (·.2) = assign e G.X.env :: (assignEach es G.X.env).map (·.2) := by rfl) : RGs G (e :: es) js (mt :: ms) := by
  intro σ W env vs ds Q re r p
  cases r with
  | nil => exact p.elim
  | cons r1 rr =>
    rename_i v d vs ds
    refine ⟨gCons (QG G e) (fun vs σ H Q => ∃ t, PGs G.X es t ∧ t vs σ H Q), pgs_cons pg_q ⟨fun pins s σ H vs us Q I rv h => ?_⟩ hs, v, vs, rfl, ?_⟩
    · obtain ⟨t, ht, hq⟩ := h
      exact ht.run pins s σ H vs us Q I rv hq
    · refine h1 σ W env v d _ re r1 ?_
      unfold gTs at p
      cases hm : mt d env with
      | none => rw [hm] at p; exact p.elim
      | some env1 =>
        rw [hm] at p
        intro σ1 d1 x1 re1
        refine h2 σ1 W env1 vs ds Q re1 rr ?_
        show PostG G W σ1 env1 js (gTs ms ds env1) Q
        have p : PostG G W σ env js (gTs ms ds env1) Q := p
        cases hg : gTs ms ds env1 with
        | none => rw [hg] at p; exact p.elim
        | some env2 =>
          rw [hg] at p
          exact fun σ2 d2 x2 re2 => p σ2 (d1.trans d2) (x1.trans x2) re2
theorem rg_tup {k : Nat} {n : Nat} (hc : G.X.calm = true) (h : RGs G es js ms) (hn : (assignEach es G.X.env).length = n := by rfl) (hm : ms.length = n := by rfl) (hst : (assignEach es G.X.env).findIdx? (·.1) = none := by rfl) : RG G (.Tuple es k pos) js (gT ms) := by
  intro σ W env v d Q re r p
  have hlen : ∀ (ms : List TgM) (ds : List D) (env : En), gTs ms ds env ≠ none → ms.length = ds.length := fun ms => by
    induction ms with
    | nil => intro ds env h; cases ds with
      | nil => rfl
      | cons _ _ => exact absurd rfl h
    | cons t ts ih => intro ds env h; cases ds with
      | nil => exact absurd rfl h
      | cons d ds =>
        unfold gTs at h
        cases q : t d env with
        | none => rw [q] at h; exact absurd rfl h
        | some env1 =>
          rw [q] at h
          have := ih ds env1 h
          simp [this]
  have fin : ∀ {q : Addr} {xs : List V} {ds : List D}, SqT G.X.K W.h q xs → Reps G.X.K G.ca W xs ds → PostG G W σ env js (gTs ms ds env) Q → QG G (.Tuple es k pos) (.ref q) σ W.h Q := fun {q xs ds} sq rr p => by
    have hl : ms.length = ds.length := hlen ms ds env fun z => by rw [z] at p; exact p
    obtain ⟨t, ht, hq⟩ := h σ W env xs ds Q re rr p
    exact qg_of (pg_tup hc ht hn hst) ⟨q, xs, rfl, sq, by rw [rr.length, ← hl, hm], hq⟩
  cases r with
  | tup n1 h1 r1 => exact fin (.inl h1) r1 p
  | tupK h1 r1 => exact fin h1.sq r1 p
  | _ => exact p.elim
end

/-! ### what is walked -/
def JOk (K : PySem.W.Frag) (ca : Nat → Addr) (W : Wd) (J : It) (ds : List D) : Prop := ∀ (W' : Wd) (st : Sto), Kp W W' → WOk K ca W' st →
  (∀ (i : Nat) (d : D), ds[i]? = some d → J.go i W'.h ∧ ∀ x H', J.yld i W'.h x H' → ∃ W2 : Wd, W2.h = H' ∧ Ext W' W2 ∧ WOk K ca W2 st ∧ Rep K ca W2 x d) ∧ J.stop ds.length W'.h
def PostI (G : Gx) (W : Wd) (σ : L2.St) (r : Res (List D)) (R : It → Hp → Prop) : Prop := match r with
  | .ok ds st => ∀ J W', Ext W W' → WOk G.X.K G.ca W' st → JOk G.X.K G.ca W' J ds → R J W'.h
  | .exc c fs st => ∀ dd W', Ext W W' → WOk G.X.K G.ca W' st → RepX G.X.K G.ca W' fs dd → G.E (.ref (G.ca c)) dd σ W'.h
  | .bad => False
def RI (G : Gx) (tg iter : Expr) (m : AM) : Prop := ∀ σ W env st R, WOk G.X.K G.ca W st → RepE G.X.K G.ca G.xc W σ env → PostI G W σ (m env st) R → QI G tg iter σ W.h R

def forLoop (tg : TgM) (body : SM) : List D → SM
  | [], env, st => .nx env st
  | d :: ds, env, st => match tg d env with
    | none => .bad
    | some env1 => match body env1 st with
      | .nx env2 st2 => forLoop tg body ds env2 st2
      | .ct env2 st2 => forLoop tg body ds env2 st2
      | .bk env2 st2 => .nx env2 st2
      | r => r
def sFor (it : AM) (tg : TgM) (body : SM) : SM := fun env st => (it env st).go env fun ds s => forLoop tg body ds env s
section
variable {G : Gx} {tg iter : Expr} {body : List Stmt} {pos : Pos} {mi : AM} {js : List Nat} {mt : TgM} {mb : SM}
theorem bindIS {W : Wd} {σ : L2.St} {r : Res (List D)} {f : List D → Sto → SRes} {env : En} {Dn : Ends} {R : It → Hp → Prop} (re : RepE G.X.K G.ca G.xc W σ env) (h : PostS G W σ env (r.go env f) Dn)
    (k : ∀ (ds : List D) (s1 : Sto) (J : It) (W2 : Wd), Ext W W2 → WOk G.X.K G.ca W2 s1 → JOk G.X.K G.ca W2 J ds → RepE G.X.K G.ca G.xc W2 σ env → PostS G W2 σ env (f ds s1) Dn → R J W2.h) : PostI G W σ r R := by
  cases r with
  | ok d s1 => exact fun J W2 e w j => k d s1 J W2 e w j (re.mono e) (PostS.mono (e.s σ env) h)
  | exc c fs s1 => exact fun dd W2 e w x => h σ dd W2 (e.s σ env) w (re.mono e) x
  | bad => exact h
theorem drop_at {α : Type} {l : List α} {i : Nat} {d : α} (h : l[i]? = some d) : l.drop i = d :: l.drop (i + 1) := by
  obtain ⟨h1, h2⟩ := List.getElem?_eq_some_iff.mp h
  rw [List.drop_eq_getElem_cons h1, h2]
theorem rs_for (hp : PassesOwn (model G.X.prog G.X.w) G.X.A G.X.env G.X.xe) (hc : G.X.calm = true) (hi : RI G tg iter mi) (hg : RG G tg js mt) (hb : RSs G body mb)
    (hs : ∀ x, foldedSetIterable iter G.X.env x = pure x := by intro _; rfl) : RS G (.For tg iter body [] pos) (sFor mi mt mb) := by
  intro σ W env st Dn w re p
  refine qs_of (ps_for hp hc pi_q pg_q pss_q hs) ?_
  refine hi σ W env st _ w re (bindIS re p fun ds s1 J W1 e1 w1 j1 re1 p1 => ?_)
  refine ⟨fun i m σ' H' => ∃ W' env' st', H' = W'.h ∧ m = ds.length - i ∧ i ≤ ds.length ∧ Kp W1 W' ∧ WOk G.X.K G.ca W' st' ∧ RepE G.X.K G.ca G.xc W' σ' env' ∧ PostS G W' σ' env' (forLoop mt mb (ds.drop i) env' st') Dn,
    ⟨ds.length, W1, env, s1, rfl, rfl, Nat.zero_le _, Kp.refl W1, w1, re1, p1⟩, ?_⟩
  rintro i m σ' H' ⟨W', env', st', rfl, rfl, hi, k', w', re', p'⟩
  obtain ⟨jg, js'⟩ := j1 W' st' k' w'
  cases hd : ds[i]? with
  | none =>
    have hl : ds.length ≤ i := List.getElem?_eq_none_iff.mp hd
    have e : i = ds.length := Nat.le_antisymm hi hl
    subst e
    rw [List.drop_length] at p'
    exact .inl ⟨js', p' σ' W' (ExtS.refl W' σ' env') w' re'⟩
  | some d =>
    have hl : i < ds.length := (List.getElem?_eq_some_iff.mp hd).1
    obtain ⟨go, yl⟩ := jg i d hd
    rw [drop_at hd] at p'
    refine .inr ⟨go, fun σ2 H2 => ∃ W2 env2 st2, H2 = W2.h ∧ Kp W1 W2 ∧ WOk G.X.K G.ca W2 st2 ∧ RepE G.X.K G.ca G.xc W2 σ2 env2 ∧ PostS G W2 σ2 env2 (forLoop mt mb (ds.drop (i + 1)) env2 st2) Dn,
      fun σ2 H2 ⟨W2, env2, st2, h1, h2, h3, h4, h5⟩ => ⟨ds.length - (i + 1), by omega, W2, env2, st2, h1, rfl, hl, h2, h3, h4, h5⟩, fun x H2 y => ?_⟩
    obtain ⟨W2, rfl, e2, w2, r2⟩ := yl x H2 y
    refine hg σ' W2 env' x d _ (re'.mono e2) r2 ?_
    have p2 := PostS.mono (e2.s σ' env') p'
    unfold forLoop at p2
    cases hm : mt d env' with
    | none => rw [hm] at p2; exact p2.elim
    | some env1 =>
      rw [hm] at p2
      intro σ1 _ x1 re1'
      refine hb σ1 W2 env1 st' _ w2 re1' ?_
      have p3 := PostS.mono x1 p2
      dsimp only at p3
      cases hbd : mb env1 st' with
      | nx env2 st2 =>
        rw [hbd] at p3
        exact fun σ3 W3 x3 w3 re3 => ⟨W3, env2, st2, rfl, k'.trans (e2.kp.trans x3.kp), w3, re3, PostS.mono x3 p3⟩
      | ct env2 st2 =>
        rw [hbd] at p3
        exact fun σ3 W3 x3 w3 re3 => ⟨W3, env2, st2, rfl, k'.trans (e2.kp.trans x3.kp), w3, re3, PostS.mono x3 p3⟩
      | bk env2 st2 => rw [hbd] at p3; exact p3
      | rt d2 st2 => rw [hbd] at p3; exact p3
      | exc env2 c fs st2 => rw [hbd] at p3; exact p3
      | bad => rw [hbd] at p3; exact p3
end

/-! ### while -/
def wLoop (c : TM) (b : SM) : Nat → SM
  | 0, _, _ => .bad
  | n + 1, env, st => (c env st).go env fun k s => if k = true then
      (match b env s with
      | .nx env2 st2 => wLoop c b n env2 st2
      | .ct env2 st2 => wLoop c b n env2 st2
      | .bk env2 st2 => .nx env2 st2
      | r => r) else .nx env s
def sWhile (n : Nat) (c : TM) (b : SM) : SM := wLoop c b n
section
variable {G : Gx} {c : Expr} {body : List Stmt} {pos : Pos} {tc : TM} {mb : SM}
theorem rs_while {n : Nat} (hp : PassesOwn (model G.X.prog G.X.w) G.X.A G.X.env G.X.xe) (hc : RT G c tc) (hb : RSs G body mb) : RS G (.While c body [] pos) (sWhile n tc mb) := by
  intro σ W env st Dn w re p
  refine qs_of (ps_while hp pt_q pss_q) ?_
  refine ⟨fun m σ' H' => ∃ W' env' st', H' = W'.h ∧ WOk G.X.K G.ca W' st' ∧ RepE G.X.K G.ca G.xc W' σ' env' ∧ PostS G W' σ' env' (wLoop tc mb m env' st') Dn, ⟨n, W, env, st, rfl, w, re, p⟩, ?_⟩
  rintro m σ' H' ⟨W', env', st', rfl, w', re', p'⟩
  cases m with
  | zero => exact p'.elim
  | succ m =>
    refine hc σ' W' env' st' _ w' re' (bindTS re' p' fun k s1 W1 e1 w1 re1 p1 => ?_)
    cases k with
    | false => rw [if_neg Bool.false_ne_true] at p1 ⊢; exact p1 σ' W1 (ExtS.refl W1 σ' env') w1 re1
    | true =>
      rw [if_pos rfl] at p1 ⊢
      refine ⟨fun σ2 H2 => ∃ W2 env2 st2, H2 = W2.h ∧ WOk G.X.K G.ca W2 st2 ∧ RepE G.X.K G.ca G.xc W2 σ2 env2 ∧ PostS G W2 σ2 env2 (wLoop tc mb m env2 st2) Dn, fun σ2 H2 h => ⟨m, Nat.lt_succ_self m, h⟩, ?_⟩
      refine hb σ' W1 env' s1 _ w1 re1 ?_
      cases hbd : mb env' s1 with
      | nx env2 st2 =>
        rw [hbd] at p1
        exact fun σ3 W3 x3 w3 re3 => ⟨W3, env2, st2, rfl, w3, re3, PostS.mono x3 p1⟩
      | ct env2 st2 =>
        rw [hbd] at p1
        exact fun σ3 W3 x3 w3 re3 => ⟨W3, env2, st2, rfl, w3, re3, PostS.mono x3 p1⟩
      | bk env2 st2 => rw [hbd] at p1; exact p1
      | rt d2 st2 => rw [hbd] at p1; exact p1
      | exc env2 c fs st2 => rw [hbd] at p1; exact p1
      | bad => rw [hbd] at p1; exact p1
end
end Mi

/-! MiCall: defs as pure functions, calls, methods, instances and their fields, owned things. -/
namespace Mi
open PySem PySem.Spec PyProof.Rows L2

/-! ### a def's promise -/
def spM (K : PySem.W.Frag) (ca : Nat → Addr) (n : Nat) (m : List D → M D) : Sp := fun vs H Q E => ∃ (W : Wd) (st : Sto) (ds : List D), W.h = H ∧ WOk K ca W st ∧ Reps K ca W vs ds ∧ ds.length = n ∧ match m ds st with
  | .ok d st' => ∀ v W', Ext W W' → WOk K ca W' st' → Rep K ca W' v d → Q v W'.h
  | .exc c fs st' => ∀ dd W', Ext W W' → WOk K ca W' st' → RepX K ca W' fs dd → E (.ref (ca c)) dd W'.h
  | .bad => False
def env0 (n : Nat) (ds : List D) : En := ds.map Slot.sh ++ List.replicate (n - ds.length) .no
def runBody (n : Nat) (b : SM) (ds : List D) : M D := fun st => match b (env0 n ds) st with
  | .nx _ st' => .ok .non st'
  | .rt d st' => .ok d st'
  | .exc _ c fs st' => .exc c fs st'
  | _ => .bad
theorem env0_get {n : Nat} {ds : List D} {i : Nat} {s : Slot} (h : (env0 n ds)[i]? = some s) : s = .no ∨ ∃ d, s = .sh d ∧ ds[i]? = some d := by
  unfold env0 at h
  by_cases hi : i < ds.length
  · rw [List.getElem?_append_left (by simpa using hi), List.getElem?_map] at h
    cases e : ds[i]? with
    | none => rw [e] at h; cases h
    | some d => rw [e] at h; cases h; exact .inr ⟨d, rfl, rfl⟩
  · rw [List.getElem?_append_right (by simpa using hi), List.getElem?_replicate] at h
    split at h
    · cases h; exact .inl rfl
    · cases h
theorem env0_own {n : Nat} {ds : List D} {σ : L2.St} {i : Nat} {p : Addr} : ¬ Own σ (env0 n ds) i p := fun ⟨_, s, h, o⟩ => by
  rcases env0_get h with e | ⟨d, e, _⟩
  · subst e; cases o
  · subst e; cases o
theorem start_get {N : List Str} {vs : List V} {i : Nat} {v : V} (h : vs[i]? = some v) : (start N vs)[i]? = some (some v) := by
  unfold L2.start
  rw [List.getElem?_append_left (by simpa using (List.getElem?_eq_some_iff.mp h).1), List.getElem?_map, h]
  rfl
theorem repE_start {K : PySem.W.Frag} {ca : Nat → Addr} {W : Wd} {N : List Str} {vs : List V} {ds : List D} (r : Reps K ca W vs ds) : RepE K ca none W (start N vs) (env0 N.length ds) where
  len := by unfold L2.start env0; simp [r.length]
  sh := fun i d h => by
    rcases env0_get h with e | ⟨d', e, hd⟩
    · cases e
    · cases e
      obtain ⟨v, h1, h2⟩ := r.get hd
      exact ⟨v, start_get h1, h2⟩
  oL := fun i d h => by
    rcases env0_get h with e | ⟨d', e, hd⟩ <;> cases e
  oI := fun i c d h => by
    rcases env0_get h with e | ⟨d', e, hd⟩ <;> cases e
  ex := fun i c d h => by
    rcases env0_get h with e | ⟨d', e, hd⟩ <;> cases e
  sep := fun i j p h => absurd h env0_own
/-- the context of a def's body -/
abbrev gx (P : Program) (w : World) (K : PySem.W.Frag) (mg : Str → Option Value) (base : Heap) (ca : Nat → Addr) (N : List Str) (qual : Str) (sc : Scope) (f : Addr) (cdv : Value) (A : Around) (outer : List Env) (s : Shared) (H : Hp) (E : XK) : Gx where
  X := cxOf (L2.CX P w) P w K mg base N qual sc f cdv A outer s H E
  ca := ca
  E := fun c d _ H' => E c d H'
  xc := none
section
variable {P : Program} {w : World} {K : PySem.W.Frag} {mg : Str → Option Value} {base : Heap} {ca : Nat → Addr}
theorem gx_tk {N : List Str} {qual : Str} {sc : Scope} {f : Addr} {cdv : Value} {A : Around} {outer : List Env} {s : Shared} {H : Hp} {E : XK} : Takes (gx P w K mg base ca N qual sc f cdv A outer s H E).X (gx P w K mg base ca N qual sc f cdv A outer s H E).E := takes_of rfl rfl rfl rfl
theorem gx_po {N : List Str} {qual : Str} {sc : Scope} {f : Addr} {cdv : Value} {A : Around} {outer : List Env} {s : Shared} {H : Hp} {E : XK} : PassesOwn (model P w) (gx P w K mg base ca N qual sc f cdv A outer s H E).X.A (gx P w K mg base ca N qual sc f cdv A outer s H E).X.env (gx P w K mg base ca N qual sc f cdv A outer s H E).X.xe :=
  passes_of (X := (gx P w K mg base ca N qual sc f cdv A outer s H E).X) (K := fun e s'' => L2.CX P w outer H s E e s'') rfl
theorem fn_ok {x qual : Str} {st : Stmt} {f : Addr} {fd : FuncData} {N ps : List Str} {k : Nat} {b : SM} (F : Fun K x qual st f fd) (S : FnScope N ps (defScope st))
    (hb : ∀ (cdv : Value) (A : Around) (outer : List Env) (s : Shared) (H : Hp) (E : XK), Room k (A.deeper (envOfC qual (defScope st) s.heap.objs.size f cdv)) → RSs (gx P w K mg base ca N qual (defScope st) f cdv A outer s H E) (defBody st) b) :
    FnOk P w K mg base (L2.CX P w) (k + 1) f fd ps (spM K ca ps.length (runBody N.length b)) := by
  refine F.okX S (fun vs H Q E h => ?_) fun cdv A outer s H vs Q E hr h => ⟨QSs (gx P w K mg base ca N qual (defScope st) f cdv A outer s H E) (defBody st), pss_q (G := gx P w K mg base ca N qual (defScope st) f cdv A outer s H E), ?_⟩
  · obtain ⟨W, sto, ds, _, _, r, hl, _⟩ := h
    rw [r.length, hl]
  · obtain ⟨W, sto, ds, rfl, wk, r, hl, p⟩ := h
    refine hb cdv A outer s W.h E hr (start N vs) W (env0 N.length ds) sto _ wk (repE_start r) ?_
    have no : ∀ i p, ¬ Own (start N vs) (env0 N.length ds) i p := fun i p => env0_own
    unfold runBody at p
    cases hm : b (env0 N.length ds) sto with
    | nx env' st' => rw [hm] at p; exact fun σ' W' x w' _ => p .non W' (x.ext no) w' .non
    | rt d st' => rw [hm] at p; exact fun v W' x w' r' => p v W' (x.ext no) w' r'
    | bk env' st' => rw [hm] at p; exact p.elim
    | ct env' st' => rw [hm] at p; exact p.elim
    | exc env' c fs st' => rw [hm] at p; exact fun σ' dd W' x w' _ rx => p dd W' (x.ext no) w' rx
    | bad => rw [hm] at p; exact p
end

/-! ### calls -/
section
variable {G : Gx} {k : Nat} {f : Addr} {fd : FuncData} {ps : List Str} {x : Str} {p pos apos : Pos} {e o : Expr} {es : List Expr} {aa : AM} {ma : EM}
/-- a def called with values; dds: the defaults behind them -/
def mCall (n : Nat) (dds : List D) (m : List D → M D) : List D → M D := fun ds st => if ds.length + dds.length = n then m (ds ++ dds) st else .bad
theorem run_def {n : Nat} {sp : Sp} {σ : L2.St} {W : Wd} {vs : List V} {dvs : List V} {dvals : List Value} {Q : VK} (tk : Takes G.X G.E) (F : FnOk G.X.prog G.X.w G.X.K G.X.mg G.X.base (L2.CX G.X.prog G.X.w) k f fd ps sp) (hr : Room k G.X.A) (hb : Binds G.X.K fd ps dvals) (hd : Vals dvs dvals)
    {H : Hp} (h : sp (vs ++ dvs) H Q fun c d H' => G.E c d σ H') : QC G (.ref f) σ vs H Q := by
  intro pins s us I rv
  have r2 : Vals (vs ++ dvs) (us ++ dvals) := rv.append hd
  have hl : (us ++ dvals).length = ps.length := by
    rw [← r2.length]
    exact F.len _ _ _ _ h
  refine wpAny_call (codeAny_mono (F.run G.X.A G.X.stack s H ⟨us, []⟩ _ _ Q _ hr I.env0 (hb s us I.kIn hl) r2 h) fun res s' hq => ?_)
  cases res with
  | error ex => exact tk ex s' (XE.of_call I (fun _ _ _ z => z) hq)
  | ok fl =>
    cases fl with
    | ret u => exact I.after hq
    | next => exact hq.elim
    | brk => exact hq.elim
    | cont => exact hq.elim
theorem call_def {n : Nat} {m : List D → M D} {dvs : List V} {dvals : List Value} {dds : List D} (tk : Takes G.X G.E) (F : FnOk G.X.prog G.X.w G.X.K G.X.mg G.X.base (L2.CX G.X.prog G.X.w) k f fd ps (spM G.X.K G.ca n m)) (hr : Room k G.X.A) (hb : Binds G.X.K fd ps dvals) (hd : Vals dvs dvals)
    (rd : ∀ W, Reps G.X.K G.ca W dvs dds) : CallD G (.ref f) (mCall n dds m) := by
  intro σ W st vs ds Q wk r p
  unfold mCall at p
  split at p
  · rename_i hl
    refine run_def (n := n) (W := W) tk F hr hb hd ⟨W, st, ds ++ dds, rfl, wk, r.append (rd W), by rw [List.length_append]; exact hl, ?_⟩
    exact p
  · exact p.elim
theorem call_def0 {n : Nat} {m : List D → M D} (tk : Takes G.X G.E) (F : FnOk G.X.prog G.X.w G.X.K G.X.mg G.X.base (L2.CX G.X.prog G.X.w) k f fd ps (spM G.X.K G.ca n m)) (hr : Room k G.X.A) (hb : Binds G.X.K fd ps []) : CallD G (.ref f) (mCall n [] m) :=
  call_def tk F hr hb .nil fun _ => .nil
def eCall (g : List D → M D) (a : AM) : EM := fun env st => (a env st).bind g
variable {g : List D → M D}
/-- f(e, ..), f a name of the module that holds a def or a class -/
theorem re_call (hc : CallD G (.ref f) g) (hg : Gl G.X x) (hm : G.X.mg x = some (.ref f)) (hk : PySem.W.keepIn G.X.K (.ref f) = true) (ha : RA G (e :: es) aa)
    (hdb : (x == ("__debug__" : Str)) = false := by decide) (he : starEach (e :: es) G.X.env = (false, eval e G.X.env) :: starEach es G.X.env := by rfl) (hpl : (backTo pos (starEach es G.X.env)).any (·.1) = false := by rfl) :
    RE G (.Call (.Name x p) (e :: es) [] pos) (eCall g aa) := by
  intro σ W env st Q wk re hp pins s I
  refine wpAny_Call_Name_kw (ld_glob I hg hm ?_ hdb)
  refine PySem.W.callWith_K (h₀ := G.X.base) I.ok.mod.kin hk (thn (ha σ W env st (fun vs H => QC G (.ref f) σ vs H Q) wk re (bindAE hp fun ds s1 vs W1 e1 w1 r1 p1 => hc σ W1 s1 vs ds Q w1 r1 p1) pos pins s I) fun us s1 hu => ?_) he hpl
  obtain ⟨vs, H1, I1, r1, q1⟩ := hu
  exact ⟨I1.kIn, q1 pins s1 us I1 r1⟩
theorem re_call0 (hc : CallD G (.ref f) g) (hg : Gl G.X x) (hm : G.X.mg x = some (.ref f)) (hk : PySem.W.keepIn G.X.K (.ref f) = true) (hdb : (x == ("__debug__" : Str)) = false := by decide) :
    RE G (.Call (.Name x p) [] [] pos) (eCall g aNil) := by
  intro σ W env st Q wk re hp pins s I
  refine wpAny_Call_Name_kw (ld_glob I hg hm ?_ hdb)
  exact PySem.W.callWith_K0 I.kIn hk (hc σ W st [] [] Q wk .nil hp pins s [] I .nil)
/-- a builtin by its name -/
theorem re_callB {id : String} (hc : CallD G (.builtin id) g) (hg : Gl G.X x) (hm : G.X.mg x = none) (hv : bootBuiltins x = some (.builtin id)) (ha : RA G (e :: es) aa) (hn : x ≠ "__name__" := by decide) (hdb : (x == ("__debug__" : Str)) = false := by decide)
    (he : starEach (e :: es) G.X.env = (false, eval e G.X.env) :: starEach es G.X.env := by rfl) (hpl : (backTo pos (starEach es G.X.env)).any (·.1) = false := by rfl) : RE G (.Call (.Name x p) (e :: es) [] pos) (eCall g aa) := by
  intro σ W env st Q wk re hp pins s I
  refine wpAny_Call_Name_kw (ld_blt I hg hm hv ?_ hn hdb)
  refine PyProof.Rows.callWith_builtin1 (thn (ha σ W env st (fun vs H => QC G (.builtin id) σ vs H Q) wk re (bindAE hp fun ds s1 vs W1 e1 w1 r1 p1 => hc σ W1 s1 vs ds Q w1 r1 p1) pos pins s I) fun us s1 hu => ?_) he hpl
  obtain ⟨vs, H1, I1, r1, q1⟩ := hu
  exact q1 pins s1 us I1 r1
theorem re_callTy {T : String} (hc : CallD G (.type T) g) (hg : Gl G.X x) (hm : G.X.mg x = none) (hv : bootBuiltins x = some (.type T)) (ha : RA G (e :: es) aa) (hn : x ≠ "__name__" := by decide) (hdb : (x == ("__debug__" : Str)) = false := by decide)
    (he : starEach (e :: es) G.X.env = (false, eval e G.X.env) :: starEach es G.X.env := by rfl) (hpl : (backTo pos (starEach es G.X.env)).any (·.1) = false := by rfl) : RE G (.Call (.Name x p) (e :: es) [] pos) (eCall g aa) := by
  intro σ W env st Q wk re hp pins s I
  refine wpAny_Call_Name_kw (ld_blt I hg hm hv ?_ hn hdb)
  refine PyProof.Rows.callWith_type1 (thn (ha σ W env st (fun vs H => QC G (.type T) σ vs H Q) wk re (bindAE hp fun ds s1 vs W1 e1 w1 r1 p1 => hc σ W1 s1 vs ds Q w1 r1 p1) pos pins s I) fun us s1 hu => ?_) he hpl
  obtain ⟨vs, H1, I1, r1, q1⟩ := hu
  exact q1 pins s1 us I1 r1
/-- the same where a new list comes -/
def CallL (G : Gx) (fv : Value) (f : List D → M (List D)) : Prop := ∀ σ W st xs ds Q, WOk G.X.K G.ca W st → Reps G.X.K G.ca W xs ds → PostL G W σ (f ds st) Q → QC G fv σ xs W.h Q
def lCall (g : List D → M (List D)) (a : AM) : AM := fun env st => (a env st).bind g
theorem rl_callTy {T : String} {g : List D → M (List D)} (hc : CallL G (.type T) g) (hg : Gl G.X x) (hm : G.X.mg x = none) (hv : bootBuiltins x = some (.type T)) (ha : RA G (e :: es) aa) (hn : x ≠ "__name__" := by decide) (hdb : (x == ("__debug__" : Str)) = false := by decide)
    (he : starEach (e :: es) G.X.env = (false, eval e G.X.env) :: starEach es G.X.env := by rfl) (hpl : (backTo pos (starEach es G.X.env)).any (·.1) = false := by rfl) : RL G (.Call (.Name x p) (e :: es) [] pos) (lCall g aa) := by
  intro σ W env st Q wk re hp pins s I
  refine wpAny_Call_Name_kw (ld_blt I hg hm hv ?_ hn hdb)
  refine PyProof.Rows.callWith_type1 (thn (ha σ W env st (fun vs H => QC G (.type T) σ vs H Q) wk re (bindAL hp fun ds s1 vs W1 e1 w1 r1 p1 => hc σ W1 s1 vs ds Q w1 r1 p1) pos pins s I) fun us s1 hu => ?_) he hpl
  obtain ⟨vs, H1, I1, r1, q1⟩ := hu
  exact q1 pins s1 us I1 r1
end

/-! ### instances -/
def clsOf (d : D) (st : Sto) : Option (Nat × Fs) := match d with
  | .ins c fs => some (c, fs)
  | .cell n => match st[n]? with
    | some (.ins c fs) => some (c, fs)
    | _ => none
  | _ => none
theorem clsOf_at {K : PySem.W.Frag} {ca : Nat → Addr} {W : Wd} {st : Sto} {x : V} {d : D} {c : Nat} {fs : Fs} (wk : WOk K ca W st) (r : Rep K ca W x d) (h : clsOf d st = some (c, fs)) : ∃ a dx ws, x = .ref a ∧ W.h a = some (.ins (ca c) dx ws) ∧ RepF K ca W ws fs := by
  cases r with
  | ins n hh rf => cases h; exact ⟨_, _, _, rfl, hh, rf⟩
  | cell hg =>
    rename_i n p
    unfold clsOf at h
    dsimp only at h
    cases e : st[n]? with
    | none => rw [e] at h; cases h
    | some cl =>
      rw [e] at h
      cases cl with
      | ins c' fs' =>
        cases h
        obtain ⟨dx, ws, h1, h2⟩ := wk.cell n p _ hg e
        exact ⟨p, dx, ws, rfl, h1, h2⟩
      | lst _ => cases h
      | dk _ => cases h
  | _ => cases h
section
variable {G : Gx} {f : Addr} {p pos apos : Pos} {e o : Expr} {es : List Expr} {aa : AM} {ma : EM} {name : Str}
/-- a method of the class c -/
structure MOk (G : Gx) (name : Str) (c : Nat) (g : List D → M D) : Prop where
  cl : Cls G.X.K (G.ca c)
  me : ∃ f, Meth G.X.K (G.ca c) name f ∧ CallD G (.ref f) g
def MsOk (G : Gx) (name : Str) (tab : List (Nat × (List D → M D))) : Prop := ∀ c g, tab.lookup c = some g → MOk G name c g
theorem ms_nil : MsOk G name [] := fun c g h => by cases h
theorem ms_cons {c : Nat} {g : List D → M D} {tab : List (Nat × (List D → M D))} (h : MOk G name c g) (t : MsOk G name tab) : MsOk G name ((c, g) :: tab) := fun c' g' e => by
  rw [List.lookup_cons] at e
  cases q : c' == c with
  | true =>
    rw [q] at e
    cases e
    rw [beq_iff_eq.mp q]
    exact h
  | false => rw [q] at e; exact t c' g' e
def eMeth (tab : List (Nat × (List D → M D))) (name : Str) (o : EM) (a : AM) : EM := fun env st => (o env st).bind fun x s1 => match clsOf x s1 with
  | some (c, fs) => (match fs.lookup name, tab.lookup c with
    | none, some g => (a env s1).bind fun ds s2 => g (x :: ds) s2
    | _, _ => .bad)
  | none => .bad
theorem re_meth {tab : List (Nat × (List D → M D))} {pl : Sem Bool} (ho : RE G o ma) (ht : MsOk G name tab) (ha : RA G (e :: es) aa)
    (hst : starEach (e :: es) G.X.env = (false, eval e G.X.env) :: starEach es G.X.env := by rfl) (hpl : (backTo pos (starEach es G.X.env)).any (·.1) = false := by rfl)
    (hev : eval (.Call (.Attribute o name apos) (e :: es) [] pos) G.X.env = (do
      let ov ← eval o G.X.env
      standAt apos.atName
      let (f, first) ← holding [ov] (getMethod ov name pl)
      callWith pos f first (backTo pos (starEach (e :: es) G.X.env)) (backToKw pos (keywordEach [] G.X.env))) := by rfl) :
    RE G (.Call (.Attribute o name apos) (e :: es) [] pos) (eMeth tab name ma aa) := by
  intro σ W env st Q wk re hp pins s I
  refine PySem.W.methodCall_KW (pl := pl) (thn (ho σ W env st (fun x H => ∃ (c : Nat) (f a dx : Addr) (ws : List (Str × V)), x = .ref a ∧ H a = some (.ins (G.ca c) dx ws) ∧ ws.lookup name = none ∧ Cls G.X.K (G.ca c) ∧ Meth G.X.K (G.ca c) name f ∧
    QA G (e :: es) σ H fun vs H2 => QC G (.ref f) σ (x :: vs) H2 Q) wk re (bindEE hp fun d s1 x W1 e1 w1 r1 p1 => ?_) pins s I) fun u s1 hu => ?_) hev
  · cases hc : clsOf d s1 with
    | none => rw [hc] at p1; exact p1.elim
    | some cf =>
      obtain ⟨c, fs⟩ := cf
      rw [hc] at p1
      dsimp only at p1
      cases hl : fs.lookup name with
      | some _ => rw [hl] at p1; exact p1.elim
      | none =>
        rw [hl] at p1
        cases hg : tab.lookup c with
        | none => rw [hg] at p1; exact p1.elim
        | some g =>
          rw [hg] at p1
          obtain ⟨a, dx, ws, rfl, ha1, rf⟩ := clsOf_at w1 r1 hc
          obtain ⟨cl, f, hm, hcd⟩ := ht c g hg
          refine ⟨c, f, a, dx, ws, rfl, ha1, rf.none hl, cl, hm, ?_⟩
          refine ha σ W1 env s1 _ w1 (re.mono e1) (bindAE p1 fun ds s2 vs W2 e2 w2 r2 p2 => ?_)
          exact hcd σ W2 s2 _ _ Q w2 (.cons (r1.mono e2) r2) p2
  · obtain ⟨x, H1, I1, rx, c, f, a, dx, ws, rfl, ea, l, cl, hm, q⟩ := hu
    obtain rfl : u = Value.ref a := rx
    refine getmeth_ok I1 ea cl hm l ?_
    refine PySem.W.callWith_K (first := [.ref a]) (h₀ := G.X.base) I.ok.mod.kin hm.kp (thn (q pos pins s1 I1) fun us s2 hv => ?_) hst hpl
    obtain ⟨vs, H2, I2, r2, q2⟩ := hv
    exact ⟨I2.kIn, q2 pins s2 (.ref a :: us) I2 (.cons rfl r2)⟩
theorem re_meth0 {tab : List (Nat × (List D → M D))} {pl : Sem Bool} (ho : RE G o ma) (ht : MsOk G name tab)
    (hev : eval (.Call (.Attribute o name apos) [] [] pos) G.X.env = (do
      let ov ← eval o G.X.env
      standAt apos.atName
      let (f, first) ← holding [ov] (getMethod ov name pl)
      callWith pos f first (backTo pos (starEach [] G.X.env)) (backToKw pos (keywordEach [] G.X.env))) := by rfl) :
    RE G (.Call (.Attribute o name apos) [] [] pos) (eMeth tab name ma aNil) := by
  intro σ W env st Q wk re hp pins s I
  refine PySem.W.methodCall_KW (pl := pl) (thn (ho σ W env st (fun x H => ∃ (c : Nat) (f a dx : Addr) (ws : List (Str × V)), x = .ref a ∧ H a = some (.ins (G.ca c) dx ws) ∧ ws.lookup name = none ∧ Cls G.X.K (G.ca c) ∧ Meth G.X.K (G.ca c) name f ∧
    QC G (.ref f) σ [x] H Q) wk re (bindEE hp fun d s1 x W1 e1 w1 r1 p1 => ?_) pins s I) fun u s1 hu => ?_) hev
  · cases hc : clsOf d s1 with
    | none => rw [hc] at p1; exact p1.elim
    | some cf =>
      obtain ⟨c, fs⟩ := cf
      rw [hc] at p1
      dsimp only at p1
      cases hl : fs.lookup name with
      | some _ => rw [hl] at p1; exact p1.elim
      | none =>
        rw [hl] at p1
        cases hg : tab.lookup c with
        | none => rw [hg] at p1; exact p1.elim
        | some g =>
          rw [hg] at p1
          obtain ⟨a, dx, ws, rfl, ha1, rf⟩ := clsOf_at w1 r1 hc
          obtain ⟨cl, f, hm, hcd⟩ := ht c g hg
          exact ⟨c, f, a, dx, ws, rfl, ha1, rf.none hl, cl, hm, hcd σ W1 s1 _ _ Q w1 (.cons r1 .nil) p1⟩
  · obtain ⟨x, H1, I1, rx, c, f, a, dx, ws, rfl, ea, l, cl, hm, q⟩ := hu
    obtain rfl : u = Value.ref a := rx
    refine getmeth_ok I1 ea cl hm l ?_
    exact PySem.W.callWith_K0 (first := [.ref a]) I1.kIn hm.kp (q pins s1 [.ref a] I1 (.cons rfl .nil))
/-- o.f, f a field; cs: the classes that have it -/
def eFld (cs : List Nat) (f : Str) (o : EM) : EM := fun env st => (o env st).bind fun x s1 => match clsOf x s1 with
  | some (c, fs) => if cs.contains c = true then (match fs.lookup f with
    | some d => .ok d s1
    | none => .bad) else .bad
  | none => .bad
def FldOk (G : Gx) (cs : List Nat) (f : Str) : Prop := ∀ c ∈ cs, Cls G.X.K (G.ca c) ∧ NoAttr G.X.K (G.ca c) f
theorem fo_nil {f : Str} : FldOk G [] f := fun c h => by cases h
theorem fo_cons {c : Nat} {cs : List Nat} {f : Str} (h1 : Cls G.X.K (G.ca c)) (h2 : NoAttr G.X.K (G.ca c) f) (t : FldOk G cs f) : FldOk G (c :: cs) f := fun c' h => by
  rcases List.mem_cons.mp h with e | e
  · subst e; exact ⟨h1, h2⟩
  · exact t c' e
theorem re_fld {cs : List Nat} {f : Str} (hf : FldOk G cs f) (ho : RE G o ma) (hb : attributeBase o f G.X.env (eval o G.X.env) = eval o G.X.env := by rfl) : RE G (.Attribute o f pos) (eFld cs f ma) := by
  intro σ W env st Q wk re hp
  refine qe_of (pe_fld pe_q hb) ?_
  refine ho σ W env st _ wk re (bindEE hp fun d s1 x W1 e1 w1 r1 p1 => ?_)
  cases hc : clsOf d s1 with
  | none => rw [hc] at p1; exact p1.elim
  | some cf =>
    obtain ⟨c, fs⟩ := cf
    rw [hc] at p1
    dsimp only at p1
    split at p1
    · rename_i hcs
      cases hl : fs.lookup f with
      | none => rw [hl] at p1; exact p1.elim
      | some d2 =>
        rw [hl] at p1
        obtain ⟨a, dx, ws, rfl, ha1, rf⟩ := clsOf_at w1 r1 hc
        obtain ⟨h1, h2⟩ := hf c (by simpa using hcs)
        obtain ⟨v, h3, h4⟩ := rf.look hl
        exact ⟨a, _, dx, ws, v, rfl, ha1, h1, h2, h3, p1 v W1 (Ext.refl W1) w1 h4⟩
    · exact p1.elim
end
end Mi

/-! MiOwn: worlds written, owned slots, cells, comprehensions, instances made. -/
namespace Mi
open PySem PySem.Spec PyProof.Rows L2

section
variable {K : PySem.W.Frag} {ca : Nat → Addr} {xc : XC} {W : Wd} {σ : L2.St} {env : En} {st : Sto} {p : Addr} {o : HO}
theorem Wd.wr_kp (W : Wd) {p : Addr} {o : HO} (hp : W.h p ≠ none) (hv : W.av p) : Kp W (W.wr p o hp) where
  keep := fun q u n h => by
    have ne : q ≠ p := fun e => by subst e; exact n hv
    show upd W.h p o q = some u
    rw [upd_ne ne]; exact h
  new := fun q h => .inl h
  stay := fun q h => by
    have h : upd W.h p o q = none := h
    by_cases e : q = p
    · subst e; rw [upd_same] at h; cases h
    · rw [upd_ne e] at h; exact h
  pre := ⟨[], by show W.g = W.g ++ []; simp, fun _ h => by simp at h⟩
theorem WOk.wr (w : WOk K ca W st) (hp : W.h p ≠ none) (hv : W.av p) (hg : p ∉ W.g) : WOk K ca (W.wr p o hp) st := w.kp (W.wr_kp hp hv) rfl fun q hq => by
  show upd W.h p o q = W.h q
  rw [upd_ne (fun e => by subst e; exact hg hq)]
/-- a slot's own thing is written -/
theorem own_wr {i : Nat} {s : Slot} (re : RepE K ca xc W σ env) (ho : Own σ env i p) (hg : p ∉ W.g) (hp : W.h p ≠ none) (hv : W.av p) (hs : s.isO = true)
    (hL : ∀ ds, s = .oL ds → ∃ xs, o = .lst xs ∧ Reps K ca W xs ds) (hI : ∀ c fs, s = .oI c fs → (∃ c' fs', env[i]? = some (.oI c' fs')) ∧ ∃ dx ws, o = .ins (ca c) dx ws ∧ RepF K ca W ws fs) :
    RepE K ca xc (W.wr p o hp) σ (env.set i s) ∧ ExtS W σ env (W.wr p o hp) σ (env.set i s) := by
  have k := W.wr_kp (o := o) hp hv
  have oback : ∀ j q, Own σ (env.set i s) j q → Own σ env j q := fun j q ⟨h1, t, h2, h3⟩ => by
    by_cases e : i = j
    · subst e
      obtain ⟨_, t', h2', h3'⟩ := ho
      exact ⟨h1, t', h2', h3'⟩
    · rw [List.getElem?_set_ne e] at h2
      exact ⟨h1, t, h2, h3⟩
  have hi : i < env.length := by
    obtain ⟨_, t, h, _⟩ := ho
    exact (List.getElem?_eq_some_iff.mp h).1
  have far : ∀ j q, i ≠ j → Own σ env j q → (W.wr p o hp).h q = W.h q := fun j q ne hq => by
    have nq : q ≠ p := fun e => by subst e; exact ne (re.sep i j q ho hq)
    show upd W.h p o q = W.h q
    rw [upd_ne nq]
  refine ⟨⟨by rw [List.length_set]; exact re.len, fun j d h => ?_, fun j ds h => ?_, fun j c fs h => ?_, fun j c fs h => ?_, fun a b q h1 h2 => re.sep a b q (oback _ _ h1) (oback _ _ h2)⟩, ⟨k.keep, fun q h1 h2 h3 => ?_, k.new, k.stay, k.pre, fun j q h => .inl ⟨j, oback j q h⟩, fun j q h => ?_⟩⟩
  · by_cases e : i = j
    · subst e
      rw [List.getElem?_set_self hi] at h
      cases h
      cases hs
    · rw [List.getElem?_set_ne e] at h
      obtain ⟨v, h1, h2⟩ := re.sh j d h
      exact ⟨v, h1, h2.kp k⟩
  · by_cases e : i = j
    · subst e
      rw [List.getElem?_set_self hi] at h
      obtain ⟨xs, e1, r⟩ := hL ds (Option.some.inj h)
      exact ⟨p, xs, ho.1, hv, hg, by show upd W.h p o p = _; rw [upd_same, e1], r.kp k⟩
    · rw [List.getElem?_set_ne e] at h
      obtain ⟨q, xs, h1, h2, h3, h4, h5⟩ := re.oL j ds h
      exact ⟨q, xs, h1, h2, h3, (far j q e ⟨h1, _, h, rfl⟩).trans h4, h5.kp k⟩
  · by_cases e : i = j
    · subst e
      rw [List.getElem?_set_self hi] at h
      obtain ⟨_, dx, ws, e1, r⟩ := hI c fs (Option.some.inj h)
      exact ⟨p, dx, ws, ho.1, hv, hg, by show upd W.h p o p = _; rw [upd_same, e1], r.kp k⟩
    · rw [List.getElem?_set_ne e] at h
      obtain ⟨q, dx, ws, h1, h2, h3, h4, h5⟩ := re.oI j c fs h
      exact ⟨q, dx, ws, h1, h2, h3, (far j q e ⟨h1, _, h, rfl⟩).trans h4, h5.kp k⟩
  · by_cases e : i = j
    · subst e
      rw [List.getElem?_set_self hi] at h
      cases h
      cases hs
    · rw [List.getElem?_set_ne e] at h
      obtain ⟨a, d, h1, h2, h3⟩ := re.ex j c fs h
      exact ⟨a, d, h1, h2, h3.kp k⟩
  · have nq : q ≠ p := fun e => by subst e; exact h3 i ho
    refine ⟨?_, h1⟩
    show upd W.h p o q = W.h q
    rw [upd_ne nq]
  · obtain ⟨g1, c, fs, g2⟩ := h
    by_cases e : i = j
    · subst e
      rw [List.getElem?_set_self hi] at g2
      obtain ⟨⟨c', fs', g3⟩, _⟩ := hI c fs (Option.some.inj g2)
      exact ⟨i, g1, c', fs', g3⟩
    · rw [List.getElem?_set_ne e] at g2
      exact ⟨j, g1, c, fs, g2⟩
/-- a cell is written -/
theorem cell_wr {n : Nat} {c : Cl} (w : WOk K ca W st) (hn : W.g[n]? = some p) (hp : W.h p ≠ none) (hc : CellOk K ca (W.wr p o hp) p c) : Ext W (W.wr p o hp) ∧ WOk K ca (W.wr p o hp) (st.set n c) := by
  have hg : p ∈ W.g := List.mem_of_getElem? hn
  have hv := W.gav p hg
  have k := W.wr_kp (o := o) hp hv
  refine ⟨⟨k.keep, fun q h1 h2 => ?_, fun _ h => h, k.new, k.stay, k.pre⟩, ⟨w.nd, ?_, fun m q d h1 h2 => ?_⟩⟩
  · have nq : q ≠ p := fun e => by subst e; exact h2 hg
    show upd W.h p o q = W.h q
    rw [upd_ne nq]
  · rw [List.length_set]; exact w.len
  · have h1 : W.g[m]? = some q := h1
    by_cases e : n = m
    · subst e
      rw [hn] at h1
      cases h1
      by_cases hl : n < st.length
      · rw [List.getElem?_set_self hl] at h2
        cases h2
        exact hc
      · rw [List.getElem?_eq_none (by simpa using hl)] at h2
        cases h2
    · rw [List.getElem?_set_ne e] at h2
      have nq : q ≠ p := fun z => by
        subst z
        exact e (nd_ix w.nd hn h1)
      refine (w.cell m q d h1 h2).kp k ?_
      show upd W.h p o q = W.h q
      rw [upd_ne nq]
end

/-! ### a new list: owned by a slot, or a cell -/
def sOwn (i : Nat) (m : AM) : SM := fun env st => (m env st).go env fun ds s => .nx (env.set i (.oL ds)) s
def eCel (m : AM) : EM := fun env st => (m env st).bind fun ds s => .ok (.cell s.length) (s ++ [.lst ds])
def RdE (G : Gx) (t : TE) (m : EM) : Prop := ∀ σ W env st Q, WOk G.X.K G.ca W st → RepE G.X.K G.ca G.xc W σ env → Post G W σ (m env st) Q → t σ W.h Q
def RdL (G : Gx) (t : TE) (m : AM) : Prop := ∀ σ W env st Q, WOk G.X.K G.ca W st → RepE G.X.K G.ca G.xc W σ env → PostL G W σ (m env st) Q → t σ W.h Q
theorem RdL.e {G : Gx} {t : TE} {m : AM} (h : RdL G t m) : RdE G t (eL m) := by
  intro σ W env st Q w re p
  refine h σ W env st Q w re ?_
  unfold eL at p
  cases hm : m env st with
  | ok ds s1 =>
    rw [hm] at p
    exact fun q xs W' e1 n _ ng hh w1 r1 => p (.ref q) (W'.drop q ng) (Wd.drop_ext e1 n ng) (w1.drop ng) (.lst (fun z => z.2 rfl) hh (r1.kp (W'.drop_kp ng)))
  | exc c fs s1 => rw [hm] at p; exact p
  | bad => rw [hm] at p; exact p
/-- an owned thing becomes a cell -/
theorem Wd.cel_ext {W W1 : Wd} {p : Addr} (e : Ext W W1) (n : W.h p = none) (hp : W1.h p ≠ none) : Ext W (W1.cel p hp) where
  keep := e.keep
  own := e.own
  av := fun q h => .inl (e.av q h)
  new := fun q h => by
    rcases h with h | h
    · exact e.new q h
    · subst h; exact .inr n
  stay := e.stay
  pre := by
    obtain ⟨l, h1, h2⟩ := e.pre
    refine ⟨l ++ [p], by show W1.g ++ [p] = _; rw [h1, List.append_assoc], fun q hq => ?_⟩
    rcases List.mem_append.mp hq with z | z
    · exact h2 q z
    · have : q = p := by simpa using z
      subst this; exact n
theorem Wd.cel_kw {W : Wd} {p : Addr} (hv : W.av p) (hp : W.h p ≠ none) : Kw W (W.cel p hp) :=
  ⟨fun _ _ _ h => h, fun q h => h.elim .inl fun z => by subst z; exact .inl hv, [p], rfl⟩
theorem CellOk.kw {K : PySem.W.Frag} {ca : Nat → Addr} {W W' : Wd} {p : Addr} {c : Cl} (e : Kw W W') (hh : W'.h p = W.h p) (h : CellOk K ca W p c) : CellOk K ca W' p c := by
  cases c with
  | lst ds =>
    obtain ⟨xs, h1, h2⟩ := h
    exact ⟨xs, hh.trans h1, h2.kw e⟩
  | ins c gs =>
    obtain ⟨dx, fs, h1, h2⟩ := h
    exact ⟨dx, fs, hh.trans h1, h2.kw e⟩
  | dk kvs =>
    obtain ⟨ws, h1, h2⟩ := h
    exact ⟨ws, hh.trans h1, Paired.mapP h2 fun a b z => ⟨z.1, z.2.kw e⟩⟩
theorem WOk.cel {K : PySem.W.Frag} {ca : Nat → Addr} {W : Wd} {st : Sto} {p : Addr} {c : Cl} (w : WOk K ca W st) (hv : W.av p) (ng : p ∉ W.g) (hp : W.h p ≠ none) (hc : CellOk K ca W p c) : WOk K ca (W.cel p hp) (st ++ [c]) where
  nd := by
    show (W.g ++ [p]).Nodup
    rw [List.nodup_append]
    refine ⟨w.nd, by simp, fun a ha b hb e => ?_⟩
    have : b = p := by simpa using hb
    rw [this] at e
    rw [e] at ha
    exact ng ha
  len := by
    show (W.g ++ [p]).length = _
    rw [List.length_append, List.length_append, w.len]; rfl
  cell := fun n q d h1 h2 => by
    have h1 : (W.g ++ [p])[n]? = some q := h1
    by_cases hn : n < W.g.length
    · rw [List.getElem?_append_left hn] at h1
      rw [List.getElem?_append_left (by rw [← w.len]; exact hn)] at h2
      exact (w.cell n q d h1 h2).kw (Wd.cel_kw hv hp) rfl
    · rw [List.getElem?_append_right (by omega)] at h1
      rw [List.getElem?_append_right (by rw [← w.len]; omega)] at h2
      have e0 : n - W.g.length = 0 := by
        cases z : n - W.g.length with
        | zero => rfl
        | succ j => rw [z] at h1; simp at h1
      have e1 : n - st.length = 0 := by rw [← w.len]; exact e0
      rw [e0] at h1
      rw [e1] at h2
      cases h1
      cases h2
      exact hc.kw (Wd.cel_kw hv hp) rfl
/-- a new list as a cell -/
theorem RdL.c {G : Gx} {t : TE} {m : AM} (h : RdL G t m) : RdE G t (eCel m) := by
  intro σ W env st Q w re p
  refine h σ W env st Q w re ?_
  unfold eCel at p
  cases hm : m env st with
  | ok ds s1 =>
    rw [hm] at p
    intro q xs W1 e1 n hv ng hh w1 r1
    have hp : W1.h q ≠ none := by rw [hh]; exact fun z => by cases z
    refine p (.ref q) (W1.cel q hp) (Wd.cel_ext e1 n hp) (w1.cel hv ng hp ⟨xs, hh, r1⟩) (.cell ?_)
    show (W1.g ++ [q])[s1.length]? = some q
    rw [← w1.len, List.getElem?_append_right (Nat.le_refl _), Nat.sub_self]
    rfl
  | exc c fs s1 => rw [hm] at p; exact p
  | bad => rw [hm] at p; exact p
section
variable {G : Gx} {t : TE} {m : AM} {stm : Stmt} {i : Nat} {ma : EM} {e : Expr}
/-- name = e, by any rule of the layer that stores into slot i -/
theorem rs_asg (hps : PS G.X stm (tAsg t (gName i))) (h : RdE G t ma) : RS G stm (sSet i ma) := by
  intro σ W env st Dn w re p
  refine qs_of hps ?_
  exact h σ W env st _ w re (bindES re p fun d s1 v W1 e1 w1 r1 re1 p1 => p1 (σ.set i (some v)) W1 (ExtS.set W1 σ env rfl) w1 (re1.set r1))
/-- name = a new list, which the slot owns -/
theorem rs_own (hps : PS G.X stm (tAsg t (gName i))) (h : RdL G t m) : RS G stm (sOwn i m) := by
  intro σ W env st Dn w re p
  refine qs_of hps ?_
  refine h σ W env st _ w re ?_
  unfold sOwn at p
  cases hm : m env st with
  | bad => rw [hm] at p; exact p
  | exc c fs s1 => rw [hm] at p; exact fun dd W2 e1 w1 x => p σ dd W2 (e1.s σ env) w1 (re.mono e1) x
  | ok ds s1 =>
    rw [hm] at p
    intro q xs W1 e1 n hv ng hh w1 r1
    have re1 := re.mono e1
    have ob : ∀ j a, Own (σ.set i (some (.ref q))) (env.set i (.oL ds)) j a → (j = i ∧ a = q) ∨ (j ≠ i ∧ Own σ env j a) := fun j a ⟨h1, t, h2, h3⟩ => by
      by_cases e : i = j
      · subst e
        have hj : i < σ.length := by
          rcases Nat.lt_or_ge i σ.length with z | z
          · exact z
          · rw [List.getElem?_eq_none (by simpa using z)] at h1; cases h1
        rw [List.getElem?_set_self hj] at h1
        cases h1
        exact .inl ⟨rfl, rfl⟩
      · rw [List.getElem?_set_ne e] at h1 h2
        exact .inr ⟨fun z => e z.symm, h1, t, h2, h3⟩
    have hold : ∀ j a, Own σ env j a → W.h a ≠ none := fun j a ⟨h1, t, h2, h3⟩ => by
      cases t with
      | oL ds' =>
        obtain ⟨a', xs', g1, g2, _⟩ := re.oL j ds' h2
        rw [h1] at g1; cases g1
        exact W.trk a g2
      | oI c fs =>
        obtain ⟨a', dx, ws, g1, g2, _⟩ := re.oI j c fs h2
        rw [h1] at g1; cases g1
        exact W.trk a g2
      | no => cases h3
      | sh d => cases h3
      | ex c fs => cases h3
    refine p (σ.set i (some (.ref q))) W1 ⟨e1.keep, fun a h1 h2 _ => ⟨e1.own a h1 h2, e1.av a h1⟩, e1.new, e1.stay, e1.pre, fun j a ha => ?_, fun j a ha => ?_⟩ w1 ⟨by rw [List.length_set, List.length_set]; exact re.len, fun j d hj => ?_, fun j ds' hj => ?_, fun j c fs hj => ?_, fun j c fs hj => ?_, fun a b x h1 h2 => ?_⟩
    · rcases ob j a ha with ⟨_, rfl⟩ | ⟨_, ha⟩
      · exact .inr n
      · exact .inl ⟨j, ha⟩
    · obtain ⟨g1, c, fs, g2⟩ := ha
      rcases ob j a ⟨g1, _, g2, rfl⟩ with ⟨e1', e2'⟩ | ⟨ne, _⟩
      · subst e1'
        have hl : j < env.length := by
          rcases Nat.lt_or_ge j env.length with z | z
          · exact z
          · rw [List.getElem?_eq_none (by simpa using z)] at g2; cases g2
        rw [List.getElem?_set_self hl] at g2
        cases g2
      · rw [List.getElem?_set_ne (Ne.symm ne)] at g1 g2
        exact ⟨j, g1, c, fs, g2⟩
    · by_cases e : i = j
      · subst e
        have hl : i < env.length := by
          rcases Nat.lt_or_ge i env.length with z | z
          · exact z
          · rw [List.getElem?_eq_none (by simpa using z)] at hj; cases hj
        rw [List.getElem?_set_self hl] at hj
        cases hj
      · rw [List.getElem?_set_ne e] at hj ⊢
        exact re1.sh j d hj
    · by_cases e : i = j
      · subst e
        have hl : i < env.length := by
          rcases Nat.lt_or_ge i env.length with z | z
          · exact z
          · rw [List.getElem?_eq_none (by simpa using z)] at hj; cases hj
        rw [List.getElem?_set_self hl] at hj
        cases hj
        exact ⟨q, xs, by rw [List.getElem?_set_self (by rw [re.len]; exact hl)], hv, ng, hh, r1⟩
      · rw [List.getElem?_set_ne e] at hj ⊢
        exact re1.oL j ds' hj
    · by_cases e : i = j
      · subst e
        have hl : i < env.length := by
          rcases Nat.lt_or_ge i env.length with z | z
          · exact z
          · rw [List.getElem?_eq_none (by simpa using z)] at hj; cases hj
        rw [List.getElem?_set_self hl] at hj
        cases hj
      · rw [List.getElem?_set_ne e] at hj ⊢
        exact re1.oI j c fs hj
    · by_cases e : i = j
      · subst e
        have hl : i < env.length := by
          rcases Nat.lt_or_ge i env.length with z | z
          · exact z
          · rw [List.getElem?_eq_none (by simpa using z)] at hj; cases hj
        rw [List.getElem?_set_self hl] at hj
        cases hj
      · rw [List.getElem?_set_ne e] at hj ⊢
        exact re1.ex j c fs hj
    · rcases ob a x h1 with ⟨e1', e2⟩ | ⟨_, o1⟩
      · rcases ob b x h2 with ⟨e3, _⟩ | ⟨_, o2⟩
        · exact e1'.trans e3.symm
        · subst e2
          exact absurd n (hold b x o2)
      · rcases ob b x h2 with ⟨_, e2⟩ | ⟨_, o2⟩
        · subst e2
          exact absurd n (hold a x o1)
        · exact re.sep a b x o1 o2
end
end Mi

/-! MiComp: list comprehensions; lists, tuples, texts, ranges walked. -/
namespace Mi
open PySem PySem.Spec PyProof.Rows L2

/-! ### slots forgotten -/
def wipeE (env : En) : List Nat → En
  | [] => env
  | v :: vs => (wipeE env vs).set v .no
theorem RepE.wipe {K : PySem.W.Frag} {ca : Nat → Addr} {xc : XC} {W : Wd} {σ : L2.St} {env : En} (r : RepE K ca xc W σ env) : ∀ vs : List Nat, RepE K ca xc W (L2.wipe σ vs) (wipeE env vs)
  | [] => r
  | v :: vs => (RepE.wipe r vs).wipe1
theorem wipe_out {τ : L2.St} {k : Nat} : ∀ {vs : List Nat}, k ∉ vs → (L2.wipe τ vs)[k]? = τ[k]?
  | [], _ => rfl
  | v :: vs, h => by
    have h1 : v ≠ k := fun e => h (by rw [e]; exact List.mem_cons_self)
    have h2 : k ∉ vs := fun e => h (List.mem_cons_of_mem _ e)
    unfold L2.wipe
    rw [List.getElem?_set_ne h1]
    exact wipe_out h2
theorem wipe_in {τ : L2.St} {k : Nat} (hk : k < τ.length) : ∀ {vs : List Nat}, k ∈ vs → (L2.wipe τ vs)[k]? = some none
  | [], h => by cases h
  | v :: vs, h => by
    unfold L2.wipe
    by_cases e : v = k
    · subst e
      rw [List.getElem?_set_self (by rw [L2.wipe_length]; exact hk)]
    · rw [List.getElem?_set_ne e]
      rcases List.mem_cons.mp h with z | z
      · exact absurd z.symm e
      · exact wipe_in hk z
theorem wipe_dif {σ τ : L2.St} {js vs : List Nat} (hj : ∀ j ∈ js, j ∈ vs) (d : Dif js (L2.wipe σ vs) τ) : L2.wipe τ vs = L2.wipe σ vs := by
  have hl : τ.length = σ.length := d.1.trans (L2.wipe_length σ vs)
  apply List.ext_getElem?
  intro k
  by_cases hk : k ∈ vs
  · by_cases hn : k < σ.length
    · rw [wipe_in (by rw [hl]; exact hn) hk, wipe_in hn hk]
    · rw [List.getElem?_eq_none (by rw [L2.wipe_length]; omega), List.getElem?_eq_none (by rw [L2.wipe_length]; omega)]
  · rw [wipe_out hk]
    exact d.2 k fun z => hk (hj k z)

/-! ### the loop of a comprehension -/
def compLoop (tg : TgM) (tst : TM) (elt : EM) (env : En) : List D → List D → M (List D)
  | [], acc, st => .ok acc st
  | d :: ds, acc, st => match tg d env with
    | none => .bad
    | some env1 => match tst env1 st with
      | .ok k s1 => if k = true then (match elt env1 s1 with
          | .ok y s2 => if acc.length < LIM then compLoop tg tst elt env ds (acc ++ [y]) s2 else .bad
          | _ => .bad) else compLoop tg tst elt env ds acc s1
      | _ => .bad
def lComp (it : AM) (tg : TgM) (tst : TM) (elt : EM) (vs : List Nat) : AM := fun env st => (it env st).bind fun ds s => compLoop tg tst elt (wipeE env vs) ds [] s
def tYesM : TM := fun _ st => .ok true st

/-- the context of a comprehension's block -/
abbrev Gx.blk (G : Gx) (s : Shared) (H : Hp) (scope : Scope) (C : Addr) (cl : List (Str × Addr)) (fp : List Addr) : Gx where
  X := G.X.blk s H scope (compEnvC scope cl C G.X.env) fp
  ca := G.ca
  E := fun _ _ _ _ => False
  xc := G.xc
def QTs (G : Gx) (ifs : List Expr) (σ : L2.St) (H : Hp) (Q : Bool → Hp → Prop) : Prop := ∃ t, PTs G.X ifs t ∧ t σ H Q
theorem pts_q {G : Gx} {ifs : List Expr} : PTs G.X ifs (QTs G ifs) := ⟨fun pins s σ H Q I ⟨_, ht, q⟩ => ht.run pins s σ H Q I q⟩
def RTs (G : Gx) (ifs : List Expr) (m : TM) : Prop := ∀ σ W env st Q, WOk G.X.K G.ca W st → RepE G.X.K G.ca G.xc W σ env → PostT G W σ (m env st) Q → QTs G ifs σ W.h Q
theorem rts_nil {G : Gx} : RTs G [] tYesM := fun σ W env st Q w re p => ⟨tYes, pts_nil, p W (Ext.refl W) w⟩
theorem rts_one {G : Gx} {c : Expr} {m : TM} (h : RT G c m) : RTs G [c] m := fun σ W env st Q w re p => ⟨QT G c, pts_one pt_q, h σ W env st Q w re p⟩

section
variable {G : Gx} {tg iter elt : Expr} {ifs : List Expr} {scope : Scope} {mi : AM} {js vs : List Nat} {mt : TgM} {tst : TM} {me : EM}
theorem bindIL {W : Wd} {σ : L2.St} {r : Res (List D)} {f : List D → M (List D)} {Q : VK} {R : It → Hp → Prop} (h : PostL G W σ (r.bind f) Q)
    (k : ∀ (ds : List D) (s1 : Sto) (J : It) (W2 : Wd), Ext W W2 → WOk G.X.K G.ca W2 s1 → JOk G.X.K G.ca W2 J ds → PostL G W2 σ (f ds s1) Q → R J W2.h) : PostI G W σ r R := by
  cases r with
  | ok d s1 => exact fun J W2 e w j => k d s1 J W2 e w j (PostL.mono e h)
  | exc c fs s1 => exact h
  | bad => exact h
/-- the reading of [elt for tg in iter if ..] -/
def tLcQ (G : Gx) (tg iter : Expr) (g : TG) (tt : TT) (te : TE) (vs : List Nat) : TE := tLc (QI G tg iter) g tt te vs
theorem rd_comp (hi : RI G tg iter mi) (hj : ∀ j ∈ js, j ∈ vs) {g : TG} {tt : TT} {te : TE}
    (hg : ∀ σ W env v d Q, RepE G.X.K G.ca G.xc W σ env → Rep G.X.K G.ca W v d → PostG G W σ env js (mt d env) Q → g v σ W.h Q)
    (ht : ∀ σ W env st Q, WOk G.X.K G.ca W st → RepE G.X.K G.ca G.xc W σ env → (∀ k s1, tst env st = .ok k s1 → ∀ W', Ext W W' → WOk G.X.K G.ca W' s1 → Q k W'.h) → (∃ k s1, tst env st = .ok k s1) → tt σ W.h Q)
    (he : ∀ σ W env st Q, WOk G.X.K G.ca W st → RepE G.X.K G.ca G.xc W σ env → (∀ d s1, me env st = .ok d s1 → ∀ v W', Ext W W' → WOk G.X.K G.ca W' s1 → Rep G.X.K G.ca W' v d → Q v W'.h) → (∃ d s1, me env st = .ok d s1) → te σ W.h Q) :
    RdL G (tLc (QI G tg iter) g tt te vs) (lComp mi mt tst me vs) := by
  intro σ W env st Q w re p
  refine hi σ W env st _ w re (bindIL p fun ds s1 J W1 e1 w1 j1 p1 => ?_)
  generalize hr0 : compLoop mt tst me (wipeE env vs) ds [] s1 = r0 at p1
  intro Dl hD
  have re1 : RepE G.X.K G.ca G.xc W1 (L2.wipe σ vs) (wipeE env vs) := (re.mono e1).wipe vs
  have hp0 : (W1.lay Dl (.lst []) hD).h Dl ≠ none := by
    show upd W1.h Dl (.lst []) Dl ≠ none
    rw [upd_same]; exact fun z => by cases z
  -- the world with the new list, owned
  have e0 := Wd.own_ext (W1.lay_ext (o := .lst []) hD) hD hp0
  refine ⟨fun i m H' => ∃ (W' : Wd) (st' : Sto) (acc : List D) (xs : List V), H' = W'.h ∧ m = ds.length - i ∧ i ≤ ds.length ∧ Ext W1 W' ∧ W'.av Dl ∧ Dl ∉ W'.g ∧ W'.h Dl = some (.lst xs) ∧ WOk G.X.K G.ca W' st' ∧ Reps G.X.K G.ca W' xs acc ∧
      compLoop mt tst me (wipeE env vs) (ds.drop i) acc st' = r0,
    ⟨ds.length, (W1.lay Dl (.lst []) hD).own Dl hp0, s1, [], [], rfl, rfl, Nat.zero_le _, e0, .inr rfl, fun z => W1.trk Dl (W1.gav Dl z) hD, upd_same, w1.own hD hp0, .nil, hr0⟩, ?_⟩
  rintro i m H' ⟨W', st', acc, xs, rfl, rfl, hi', x', hv, ng, hh, w', r', eq⟩
  obtain ⟨jg, jst⟩ := j1 W' st' x'.kp w'
  cases hd : ds[i]? with
  | none =>
    have hl : ds.length ≤ i := List.getElem?_eq_none_iff.mp hd
    have ei : i = ds.length := Nat.le_antisymm hi' hl
    subst ei
    rw [List.drop_length] at eq
    rw [← eq] at p1
    exact .inl ⟨jst, p1 Dl xs W' x' hD hv ng hh w' r'⟩
  | some d =>
    have hl : i < ds.length := (List.getElem?_eq_some_iff.mp hd).1
    obtain ⟨go, yl⟩ := jg i d hd
    rw [drop_at hd] at eq
    refine .inr ⟨go, fun H2 => ∃ (W2 : Wd) (st2 : Sto) (acc2 : List D) (xs2 : List V), H2 = W2.h ∧ Ext W1 W2 ∧ W2.av Dl ∧ Dl ∉ W2.g ∧ W2.h Dl = some (.lst xs2) ∧ WOk G.X.K G.ca W2 st2 ∧ Reps G.X.K G.ca W2 xs2 acc2 ∧
        compLoop mt tst me (wipeE env vs) (ds.drop (i + 1)) acc2 st2 = r0,
      fun H2 ⟨W2, st2, acc2, xs2, h1, h2, h3, h4, h5, h6, h7, h8⟩ => ⟨ds.length - (i + 1), by omega, W2, st2, acc2, xs2, h1, rfl, hl, h2, h3, h4, h5, h6, h7, h8⟩, fun x H2 y => ?_⟩
    obtain ⟨W2, rfl, e2, w2, r2⟩ := yl x H2 y
    have nb : r0 ≠ .bad := fun z => by rw [z] at p1; exact p1
    rw [← eq] at nb
    have rb : RepE G.X.K G.ca G.xc W2 (L2.wipe σ vs) (wipeE env vs) := (re1.mono x').mono e2
    refine hg _ W2 _ x d _ rb r2 ?_
    unfold compLoop at eq nb
    cases hm : mt d (wipeE env vs) with
    | none => rw [hm] at nb; exact absurd rfl nb
    | some env1 =>
      rw [hm] at eq nb
      dsimp only at eq nb
      intro σ1 df x1 re2
      refine ⟨wipe_dif hj df, ?_⟩
      cases hts : tst env1 st' with
      | bad => rw [hts] at nb; exact absurd rfl nb
      | exc c fs s2 => rw [hts] at nb; exact absurd rfl nb
      | ok k s2 =>
        rw [hts] at eq nb
        dsimp only at eq nb
        refine ht σ1 W2 env1 st' _ w2 re2 (fun k' s2' ek W3 e3 w3 => ?_) ⟨k, s2, hts⟩
        rw [hts] at ek
        cases ek
        have h3 : W3.h Dl = some (.lst xs) := (e3.own Dl (e2.av Dl hv) (e2.kp.nocell hv ng)).trans ((e2.own Dl hv ng).trans hh)
        cases k with
        | false =>
          rw [if_neg Bool.false_ne_true] at eq nb ⊢
          exact ⟨W3, s2, acc, xs, rfl, (x'.trans e2).trans e3, e3.av Dl (e2.av Dl hv), e3.kp.nocell (e2.av Dl hv) (e2.kp.nocell hv ng), h3, w3, (r'.mono e2).mono e3, eq⟩
        | true =>
          rw [if_pos rfl] at eq nb ⊢
          cases hel : me env1 s2 with
          | bad => rw [hel] at nb; exact absurd rfl nb
          | exc c fs s4 => rw [hel] at nb; exact absurd rfl nb
          | ok y2 s4 =>
            rw [hel] at eq nb
            dsimp only at eq nb
            refine he σ1 W3 env1 s2 _ w3 (re2.mono e3) (fun d' s4' ed v W4 e4 w4 r4 => ?_) ⟨y2, s4, hel⟩
            rw [hel] at ed
            cases ed
            have a3 := e3.av Dl (e2.av Dl hv)
            have g3 := e3.kp.nocell (e2.av Dl hv) (e2.kp.nocell hv ng)
            have a4 := e4.av Dl a3
            have g4 := e4.kp.nocell a3 g3
            have h4 : W4.h Dl = some (.lst xs) := (e4.own Dl a3 g3).trans h3
            by_cases hlen : acc.length < LIM
            · rw [if_pos hlen] at eq nb
              have hp4 : W4.h Dl ≠ none := by rw [h4]; exact fun z => by cases z
              have k4 := W4.wr_kp (o := .lst (xs ++ [v])) hp4 a4
              have r14 : Reps G.X.K G.ca W4 xs acc := ((r'.mono e2).mono e3).mono e4
              refine ⟨xs, h4, lim_lt (by rw [r14.length]; exact hlen), W4.wr Dl (.lst (xs ++ [v])) hp4, s4, acc ++ [y2], xs ++ [v], rfl, ?_, a4, g4, upd_same, w4.wr hp4 a4 g4, (r14.kp k4).append (.cons (r4.kp k4) .nil), eq⟩
              have e14 := ((x'.trans e2).trans e3).trans e4
              refine ⟨fun q o n h => k4.keep q o (fun z => ?_) (e14.keep q o n h), fun q h1 h2 => ?_, e14.av, e14.new, fun q h => e14.stay q (k4.stay q h), e14.pre⟩
              · rcases e14.new q z with z | z
                · exact n z
                · rw [h] at z; cases z
              · have nq : q ≠ Dl := fun z => by subst z; exact W1.trk q h1 hD
                show upd W4.h Dl _ q = W1.h q
                rw [upd_ne nq]
                exact e14.own q h1 h2
            · rw [if_neg hlen] at nb; exact absurd rfl nb
/-- the parts in the block's contexts, as readings -/
def gB (G : Gx) (scope : Scope) (tg : Expr) : TG := fun v σ H Q => ∀ s H0 C cl fp, QG (G.blk s H0 scope C cl fp) tg v σ H Q
def tB1 (G : Gx) (scope : Scope) (ifs : List Expr) : TT := fun σ H Q => ∀ s H0 C cl fp, QTs (G.blk s H0 scope C cl fp) ifs σ H Q
def eB1 (G : Gx) (scope : Scope) (elt : Expr) : TE := fun σ H Q => ∀ s H0 C cl fp, QE (G.blk s H0 scope C cl fp) elt σ H Q
abbrev tComp (G : Gx) (tg iter elt : Expr) (ifs : List Expr) (scope : Scope) (vs : List Nat) : TE := tLc (QI G tg iter) (gB G scope tg) (tB1 G scope ifs) (eB1 G scope elt) vs
theorem rdl_comp (hi : RI G tg iter mi) (hg : ∀ s H0 C cl fp, RG (G.blk s H0 scope C cl fp) tg js mt) (ht : ∀ s H0 C cl fp, RTs (G.blk s H0 scope C cl fp) ifs tst) (he : ∀ s H0 C cl fp, RE (G.blk s H0 scope C cl fp) elt me) (hj : ∀ j ∈ js, j ∈ vs) :
    RdL G (tComp G tg iter elt ifs scope vs) (lComp mi mt tst me vs) := by
  refine rd_comp hi hj (fun σ W env v d Q re r p s H0 C cl fp => hg s H0 C cl fp σ W env v d Q re r p) (fun σ W env st Q w re p ex s H0 C cl fp => ht s H0 C cl fp σ W env st Q w re ?_) (fun σ W env st Q w re p ex s H0 C cl fp => he s H0 C cl fp σ W env st Q w re ?_)
  · obtain ⟨k, s1, hk⟩ := ex
    rw [hk]
    exact p k s1 hk
  · obtain ⟨k, s1, hk⟩ := ex
    rw [hk]
    exact p k s1 hk
theorem pe_comp {own : List (Str × Nat)} {pos : Pos} (hc : G.X.calm = true) (hN : G.X.N.Nodup) (ok : BlkOk G.X.N G.X.env.scope scope own) (hs : ∀ x, foldedSetIterable iter G.X.env x = pure x := by intro _; rfl) :
    PE G.X (.ListComp elt [⟨tg, iter, ifs, 0⟩] scope pos) (tComp G tg iter elt ifs scope (own.map (·.2))) :=
  pe_lc hc hN pi_q ok (fun s H0 C cl fp => ⟨fun pins s1 σ H v u Q I r h => h s H0 C cl fp pins s1 u I r⟩) (fun s H0 C cl fp => ⟨fun pins s1 σ H Q I h => (pts_q (G := G.blk s H0 scope C cl fp)).run pins s1 σ H Q I (h s H0 C cl fp)⟩) (fun s H0 C cl fp => ⟨fun pins s1 σ H Q I h => h s H0 C cl fp pins s1 I⟩) hs
theorem ps_comp {i : Nat} {y : Str} {py spos : Pos} {own : List (Str × Nat)} {pos : Pos} (hc : G.X.calm = true) (hN : G.X.N.Nodup) (hy : G.X.N[i]? = some y) (hyl : G.X.env.scope.names.lookup y = some .local)
    (hsw : swapsWith (.ListComp elt [⟨tg, iter, ifs, 0⟩] scope pos) (some (.Name y py)) spos.line G.X.env = pure true) (ok : BlkOk G.X.N G.X.env.scope scope own) (hs : ∀ x, foldedSetIterable iter G.X.env x = pure x := by intro _; rfl) :
    PS G.X (.Assign [.Name y py] (.ListComp elt [⟨tg, iter, ifs, 0⟩] scope pos) spos) (tAsg (tComp G tg iter elt ifs scope (own.map (·.2))) (gName i)) :=
  ps_setLc hc hN hy hyl hsw pi_q ok (fun s H0 C cl fp => ⟨fun pins s1 σ H v u Q I r h => h s H0 C cl fp pins s1 u I r⟩) (fun s H0 C cl fp => ⟨fun pins s1 σ H Q I h => (pts_q (G := G.blk s H0 scope C cl fp)).run pins s1 σ H Q I (h s H0 C cl fp)⟩) (fun s H0 C cl fp => ⟨fun pins s1 σ H Q I h => h s H0 C cl fp pins s1 I⟩) hs
/-- a reading's judgement, as an expression's -/
theorem re_rd {e : Expr} {t : TE} {m : EM} (h : PE G.X e t) (r : RdE G t m) : RE G e m := fun σ W env st Q w re p => qe_of h (r σ W env st Q w re p)
theorem rl_rd {e : Expr} {t : TE} {m : AM} (h : PE G.X e t) (r : RdL G t m) : RL G e m := fun σ W env st Q w re p => qe_of h (r σ W env st Q w re p)
end
end Mi

/-! MiInst: instances made, fields stored, owned things let go. -/
namespace Mi
open PySem PySem.Spec PyProof.Rows L2

/-! ### an owned thing is let go: from then on it is a tree -/
def frz (i : Nat) (env : En) : En := match env[i]? with
  | some (.oL ds) => env.set i (.sh (.lst ds))
  | some (.oI c fs) => env.set i (.sh (.ins c fs))
  | _ => env
def sFrz (i : Nat) (m : SM) : SM := fun env st => m (frz i env) st
section
variable {K : PySem.W.Frag} {ca : Nat → Addr} {xc : XC} {W : Wd} {σ : L2.St} {env : En} {p : Addr} {i : Nat}
theorem let_go {d : D} (re : RepE K ca xc W σ env) (ho : Own σ env i p) (ng : p ∉ W.g) (r : Rep K ca (W.drop p ng) (.ref p) d) : RepE K ca xc (W.drop p ng) σ (env.set i (.sh d)) ∧ ExtS W σ env (W.drop p ng) σ (env.set i (.sh d)) := by
  have k := W.drop_kp ng
  have hi : i < env.length := by
    obtain ⟨_, t, h, _⟩ := ho
    exact (List.getElem?_eq_some_iff.mp h).1
  have oback : ∀ j q, Own σ (env.set i (.sh d)) j q → j ≠ i ∧ Own σ env j q := fun j q ⟨h1, t, h2, h3⟩ => by
    by_cases e : i = j
    · subst e
      rw [List.getElem?_set_self hi] at h2
      cases h2
      cases h3
    · rw [List.getElem?_set_ne e] at h2
      exact ⟨fun z => e z.symm, h1, t, h2, h3⟩
  have far : ∀ j q, i ≠ j → Own σ env j q → q ≠ p := fun j q ne hq e => by subst e; exact ne (re.sep i j q ho hq)
  refine ⟨⟨by rw [List.length_set]; exact re.len, fun j d' h => ?_, fun j ds h => ?_, fun j c fs h => ?_, fun j c fs h => ?_, fun a b q h1 h2 => re.sep a b q (oback _ _ h1).2 (oback _ _ h2).2⟩, ⟨k.keep, fun q h1 h2 h3 => ⟨rfl, h1, fun e => by subst e; exact h3 i ho⟩, k.new, k.stay, k.pre, fun j q h => .inl ⟨j, (oback j q h).2⟩, fun j q ⟨g1, c, fs, g2⟩ => ?_⟩⟩
  · by_cases e : i = j
    · subst e
      rw [List.getElem?_set_self hi] at h
      cases h
      exact ⟨.ref p, ho.1, r⟩
    · rw [List.getElem?_set_ne e] at h
      obtain ⟨v, h1, h2⟩ := re.sh j d' h
      exact ⟨v, h1, h2.kp k⟩
  · by_cases e : i = j
    · subst e
      rw [List.getElem?_set_self hi] at h
      cases h
    · rw [List.getElem?_set_ne e] at h
      obtain ⟨q, xs, h1, h2, h3, h4, h5⟩ := re.oL j ds h
      exact ⟨q, xs, h1, ⟨h2, far j q e ⟨h1, _, h, rfl⟩⟩, h3, h4, h5.kp k⟩
  · by_cases e : i = j
    · subst e
      rw [List.getElem?_set_self hi] at h
      cases h
    · rw [List.getElem?_set_ne e] at h
      obtain ⟨q, dx, ws, h1, h2, h3, h4, h5⟩ := re.oI j c fs h
      exact ⟨q, dx, ws, h1, ⟨h2, far j q e ⟨h1, _, h, rfl⟩⟩, h3, h4, h5.kp k⟩
  · by_cases e : i = j
    · subst e
      rw [List.getElem?_set_self hi] at h
      cases h
    · rw [List.getElem?_set_ne e] at h
      obtain ⟨a, d, h1, h2, h3⟩ := re.ex j c fs h
      exact ⟨a, d, h1, h2, h3.kp k⟩
  · have ne := (oback j q ⟨g1, _, g2, rfl⟩).1
    rw [List.getElem?_set_ne (Ne.symm ne)] at g2
    exact ⟨j, g1, c, fs, g2⟩
/-- slot i let go, if it owns something -/
theorem frz_ok {st : Sto} (i : Nat) (w : WOk K ca W st) (re : RepE K ca xc W σ env) : ∃ W', W'.h = W.h ∧ WOk K ca W' st ∧ RepE K ca xc W' σ (frz i env) ∧ ExtS W σ env W' σ (frz i env) := by
  unfold frz
  cases h : env[i]? with
  | none => exact ⟨W, rfl, w, re, ExtS.refl W σ env⟩
  | some s =>
    cases s with
    | oL ds =>
      obtain ⟨p, xs, h1, h2, h3, h4, h5⟩ := re.oL i ds h
      have k := W.drop_kp h3
      obtain ⟨a, b⟩ := let_go (d := .lst ds) re ⟨h1, _, h, rfl⟩ h3 (.lst (fun z => z.2 rfl) h4 (h5.kp k))
      exact ⟨W.drop p h3, rfl, w.drop h3, a, b⟩
    | oI c fs =>
      obtain ⟨p, dx, ws, h1, h2, h3, h4, h5⟩ := re.oI i c fs h
      have k := W.drop_kp h3
      obtain ⟨a, b⟩ := let_go (d := .ins c fs) re ⟨h1, _, h, rfl⟩ h3 (.ins (fun z => z.2 rfl) h4 (h5.kp k))
      exact ⟨W.drop p h3, rfl, w.drop h3, a, b⟩
    | no => exact ⟨W, rfl, w, re, ExtS.refl W σ env⟩
    | sh d => exact ⟨W, rfl, w, re, ExtS.refl W σ env⟩
    | ex c fs => exact ⟨W, rfl, w, re, ExtS.refl W σ env⟩
end
section
variable {G : Gx} {s : Stmt} {ss : List Stmt} {m : SM}
theorem rss_frz (i : Nat) (h : RSs G ss m) : RSs G ss (sFrz i m) := by
  intro σ W env st Dn w re p
  obtain ⟨W', e, w', re', x⟩ := frz_ok i w re
  rw [← e]
  exact h σ W' (frz i env) st Dn w' re' (PostS.mono x p)
theorem rs_frz (i : Nat) (h : RS G s m) : RS G s (sFrz i m) := by
  intro σ W env st Dn w re p
  obtain ⟨W', e, w', re', x⟩ := frz_ok i w re
  rw [← e]
  exact h σ W' (frz i env) st Dn w' re' (PostS.mono x p)
end

/-! ### fields of the instance that a slot owns -/
def eFldO (cs : List Nat) (i : Nat) (f : Str) : EM := fun env st => match env[i]? with
  | some (.oI c fs) => if cs.contains c = true then (match fs.lookup f with
    | some d => .ok d st
    | none => .bad) else .bad
  | _ => .bad
def sFldO (cs : List Nat) (i : Nat) (f : Str) (a : EM) : SM := fun env st => (a env st).go env fun d s => match env[i]? with
  | some (.oI c fs) => if cs.contains c = true ∧ fs.length < 1000 then .nx (env.set i (.oI c (put f d fs))) s else .bad
  | _ => .bad
section
variable {G : Gx} {o e : Expr} {pos pos' : Pos} {ma : EM} {cs : List Nat} {f : Str} {i : Nat}
theorem re_fldO (hf : FldOk G cs f) (ho : PE G.X o (tVar i)) (hb : attributeBase o f G.X.env (eval o G.X.env) = eval o G.X.env := by rfl) : RE G (.Attribute o f pos) (eFldO cs i f) := by
  intro σ W env st Q wk re hp
  refine qe_of (pe_fld ho hb) ?_
  unfold eFldO at hp
  cases h : env[i]? with
  | none => rw [h] at hp; exact hp.elim
  | some s =>
    rw [h] at hp
    cases s with
    | oI c fs =>
      dsimp only at hp
      split at hp
      · rename_i hcs
        cases hl : fs.lookup f with
        | none => rw [hl] at hp; exact hp.elim
        | some d2 =>
          rw [hl] at hp
          obtain ⟨p, dx, ws, h1, h2, h3, h4, h5⟩ := re.oI i c fs h
          obtain ⟨g1, g2⟩ := hf c (by simpa using hcs)
          obtain ⟨v, g3, g4⟩ := h5.look hl
          exact ⟨.ref p, h1, p, _, dx, ws, v, rfl, h4, g1, g2, g3, hp v W (Ext.refl W) wk g4⟩
      · exact hp.elim
    | no => exact hp.elim
    | sh d => exact hp.elim
    | oL d => exact hp.elim
    | ex c d => exact hp.elim
theorem rs_fldO (hf : FldOk G cs f) (ho : PE G.X o (tVar i)) (ha : RE G e ma) (hs : swapsWith e (some (.Attribute o f pos')) pos.line G.X.env = pure false := by rfl) : RS G (.Assign [.Attribute o f pos'] e pos) (sFldO cs i f ma) := by
  intro σ W env st Dn wk re hp
  refine qs_of (ps_fld ho pe_q hs) ?_
  refine ha σ W env st _ wk re (bindES re hp fun d s1 v W1 e1 w1 r1 re1 p1 => ?_)
  cases h : env[i]? with
  | none => rw [h] at p1; exact p1.elim
  | some s =>
    rw [h] at p1
    cases s with
    | oI c fs =>
      dsimp only at p1
      split at p1
      · rename_i hcs
        obtain ⟨p, dx, ws, h1, h2, h3, h4, h5⟩ := re1.oI i c fs h
        obtain ⟨g1, g2⟩ := hf c (by simpa using hcs.1)
        have hne : W1.h p ≠ none := by rw [h4]; exact fun z => by cases z
        obtain ⟨q1, q2⟩ := own_wr (o := .ins (G.ca c) dx (putF f v ws)) (s := .oI c (put f d fs)) re1 ⟨h1, _, h, rfl⟩ h3 hne h2 rfl (fun ds z => by cases z) (fun c' fs' z => by cases z; exact ⟨⟨c, fs, h⟩, dx, _, rfl, h5.put r1⟩)
        exact ⟨.ref p, h1, p, _, dx, ws, rfl, h4, g1, g2, by rw [h5.length]; exact hcs.2, p1 σ _ q2 (w1.wr hne h2 h3) q1⟩
      · exact p1.elim
    | no => exact p1.elim
    | sh d => exact p1.elim
    | oL d => exact p1.elim
    | ex c d => exact p1.elim
end

/-! ### an __init__ whose self is owned -/
def XtI (x : Addr) (W W' : Wd) : Prop := ExtS W [some (.ref x)] [.oI 0 []] W' [] []
def spI (K : PySem.W.Frag) (ca : Nat → Addr) (c n : Nat) (m : List D → M Fs) : Sp := fun vs H Q E => ∃ (x : Addr) (vs' : List V) (W : Wd) (st : Sto) (ds : List D) (dx : Addr), vs = .ref x :: vs' ∧ W.h = H ∧ WOk K ca W st ∧ W.av x ∧ x ∉ W.g ∧ W.h x = some (.ins (ca c) dx []) ∧
  Reps K ca W vs' ds ∧ ds.length = n ∧ match m ds st with
  | .ok fs st' => ∀ ws dx' W', XtI x W W' → WOk K ca W' st' → W'.av x → x ∉ W'.g → W'.h x = some (.ins (ca c) dx' ws) → RepF K ca W' ws fs → Q .non W'.h
  | .exc c' fs st' => ∀ dd W', XtI x W W' → WOk K ca W' st' → RepX K ca W' fs dd → E (.ref (ca c')) dd W'.h
  | .bad => False
def envI (c n : Nat) (ds : List D) : En := .oI c [] :: env0 (n - 1) ds
def runInit (c n : Nat) (b : SM) (ds : List D) : M Fs := fun st => match b (envI c n ds) st with
  | .nx env st' => (match (env[0]? : Option Slot) with
    | some (.oI c' fs) => if c' = c then .ok fs st' else .bad
    | _ => .bad)
  | .exc _ c fs st' => .exc c fs st'
  | _ => .bad
theorem envI_own {c n : Nat} {ds : List D} {σ : L2.St} {i : Nat} {p : Addr} (h : Own σ (envI c n ds) i p) : i = 0 := by
  obtain ⟨h1, s, h2, h3⟩ := h
  cases i with
  | zero => rfl
  | succ i =>
    have h2 : (env0 (n - 1) ds)[i]? = some s := h2
    rcases env0_get h2 with e | ⟨d, e, _⟩
    · subst e; cases h3
    · subst e; cases h3
section
variable {P : Program} {w : World} {K : PySem.W.Frag} {mg : Str → Option Value} {base : Heap} {ca : Nat → Addr}
theorem init_body {qual : Str} {st : Stmt} {f : Addr} {N ps : List Str} {c : Nat} {b : SM} {cdv : Value} {A : Around} {outer : List Env} {s : Shared} {H : Hp} {E : XK} {vs : List V} {Q : VK} (hps : 1 ≤ ps.length) (hN : ps.length ≤ N.length)
    (hb : RSs (gx P w K mg base ca N qual (defScope st) f cdv A outer s H E) (defBody st) b) (h : spI K ca c (ps.length - 1) (runInit c N.length b) vs H Q E) :
    QSs (gx P w K mg base ca N qual (defScope st) f cdv A outer s H E) (defBody st) { nx := fun _ H' => Q .non H', rt := Q } (L2.start N vs) H := by
  obtain ⟨x, vs', W, sto, ds, dx, rfl, rfl, wk, hv, ng, hx, r, hl, p⟩ := h
  have hst : L2.start N (.ref x :: vs') = some (.ref x) :: L2.start (N.drop 1) vs' := by
    unfold L2.start
    simp only [List.map_cons, List.cons_append, List.length_cons, List.length_drop]
    congr 2
    congr 1
    omega
  have hre : RepE K ca none W (L2.start N (.ref x :: vs')) (envI c N.length ds) := by
    have r0 := repE_start (N := N.drop 1) r
    rw [List.length_drop] at r0
    rw [hst]
    refine ⟨?_, fun i d h => ?_, fun i d h => ?_, fun i c' fs h => ?_, fun i c' fs h => ?_, fun i j q h1 h2 => (envI_own h1).trans (envI_own h2).symm⟩
    · show (L2.start (N.drop 1) vs').length + 1 = (env0 (N.length - 1) ds).length + 1
      rw [r0.len]
    · cases i with
      | zero => cases h
      | succ i => exact r0.sh i d h
    · cases i with
      | zero => cases h
      | succ i => exact r0.oL i d h
    · cases i with
      | zero => cases h; exact ⟨x, dx, [], rfl, hv, ng, hx, .nil⟩
      | succ i => exact r0.oI i c' fs h
    · cases i with
      | zero => cases h
      | succ i => exact r0.ex i c' fs h
  have hown : ∀ i q, Own (L2.start N (.ref x :: vs')) (envI c N.length ds) i q → q = x := fun i q h => by
    have e := envI_own h
    subst e
    obtain ⟨h1, _⟩ := h
    rw [hst] at h1
    cases h1
    rfl
  have cv : ∀ {W' σ' env'}, ExtS W (L2.start N (.ref x :: vs')) (envI c N.length ds) W' σ' env' → XtI x W W' := fun {W' σ' env'} e => by
    refine ⟨e.keep, fun q h1 h2 h3 => e.own q h1 h2 fun i hi => ?_, e.new, e.stay, e.pre, fun i q h => ?_, fun i q h => ?_⟩
    · have := hown i q hi
      subst this
      exact h3 0 ⟨rfl, _, rfl, rfl⟩
    · obtain ⟨h, _⟩ := h
      simp at h
    · obtain ⟨h, _⟩ := h
      simp at h
  refine hb _ W _ sto _ wk hre ?_
  unfold runInit at p
  cases hm : b (envI c N.length ds) sto with
  | nx env' st' =>
    rw [hm] at p
    dsimp only at p
    intro σ' W' x' w' re'
    cases h0 : env'[0]? with
    | none => rw [h0] at p; exact p.elim
    | some s0 =>
      rw [h0] at p
      cases s0 with
      | oI c' fs =>
        dsimp only at p
        by_cases hc : c' = c
        · rw [if_pos hc] at p
          subst hc
          obtain ⟨q, dx', ws, h1, h2, h3, h4, h5⟩ := re'.oI 0 c' fs h0
          obtain ⟨j, g1, _, _, g2⟩ := x'.ownI 0 q ⟨h1, _, _, h0⟩
          have e := hown j q ⟨g1, _, g2, rfl⟩
          subst e
          exact p ws dx' W' (cv x') w' h2 h3 h4 h5
        · rw [if_neg hc] at p; exact p.elim
      | no => exact p.elim
      | sh d => exact p.elim
      | oL d => exact p.elim
      | ex c' d => exact p.elim
  | rt d st' => rw [hm] at p; exact p.elim
  | bk env' st' => rw [hm] at p; exact p.elim
  | ct env' st' => rw [hm] at p; exact p.elim
  | exc env' c fs st' => rw [hm] at p; exact fun σ' dd W' x w' _ rx => p dd W' (cv x) w' rx
  | bad => rw [hm] at p; exact p
end

/-! ### C(..): a new instance that is a tree behind its __init__ -/
def mNew (c n : Nat) (dds : List D) (m : List D → M Fs) : List D → M D := fun ds st => if ds.length + dds.length = n then (m (ds ++ dds) st).bind fun fs s => .ok (.ins c fs) s else .bad
section
variable {G : Gx} {k c : Nat} {f : Addr} {fd : FuncData} {ps : List Str}
theorem run_new {σ : L2.St} {H : Hp} {vs dvs : List V} {dvals : List Value} {Q : VK} {C : Addr} {sp : Sp} (tk : Takes G.X G.E) (Mk1 : Mk G.X.K C f) (F : FnOk G.X.prog G.X.w G.X.K G.X.mg G.X.base (L2.CX G.X.prog G.X.w) k f fd ps sp) (hr : Room (k + 1) G.X.A) (hb : Binds G.X.K fd ps dvals) (hd : Vals dvs dvals)
    (h : ∀ x dx, H x = none → H dx = none → dx ≠ x → sp (.ref x :: (vs ++ dvs)) (upd (upd H dx (.own x)) x (.ins C dx [])) (fun v H2 => v = .non ∧ Q (.ref x) H2) fun cl d H' => G.E cl d σ H') : QC G (.ref C) σ vs H Q := by
  intro pins s us I rv
  have hq := h (s.heap.objs.size + 1) s.heap.objs.size (I.hok.fresh (Nat.le_succ _)) (I.hok.fresh (Nat.le_refl _)) (Nat.ne_of_lt (Nat.lt_succ_self _))
  have I2 := Inv.made (C := C) I
  have rr : Vals (V.ref (s.heap.objs.size + 1) :: (vs ++ dvs)) (Value.ref (s.heap.objs.size + 1) :: (us ++ dvals)) := .cons rfl (rv.append hd)
  have hl : (Value.ref (s.heap.objs.size + 1) :: us ++ dvals).length = ps.length := by
    have e := rr.length
    rw [F.len _ _ _ _ hq] at e
    exact e.symm
  have bnd := hb _ (Value.ref (s.heap.objs.size + 1) :: us) I2.kIn hl
  refine wpAny_call (make_map (f := f) I.kIn Mk1.makes Mk1.init (beq_iff_eq.mp Mk1.fn) (codeAny_mono (F.run _ G.X.stack _ _ _ _ _ _ _ (hr.make C us []) (I2.env0.make C us []) bnd rr hq) fun res s' hz => ?_))
  cases res with
  | error ex => exact tk ex s' (XE.of_call I2 (fun _ _ _ z => z) hz)
  | ok fl =>
    cases fl with
    | ret u =>
      obtain ⟨v, H', I3, r3, ev, q3⟩ := I2.after hz
      subst ev
      exact ⟨r3, ⟨V.ref (s.heap.objs.size + 1), H', I3, rfl, q3⟩⟩
    | next => exact hz.elim
    | brk => exact hz.elim
    | cont => exact hz.elim
theorem call_new {n : Nat} {m : List D → M Fs} {dvs : List V} {dvals : List Value} {dds : List D} (tk : Takes G.X G.E) (Mk1 : Mk G.X.K (G.ca c) f) (F : FnOk G.X.prog G.X.w G.X.K G.X.mg G.X.base (L2.CX G.X.prog G.X.w) k f fd ps (spI G.X.K G.ca c n m)) (hr : Room (k + 1) G.X.A) (hb : Binds G.X.K fd ps dvals) (hd : Vals dvs dvals)
    (rd : ∀ W, Reps G.X.K G.ca W dvs dds) : CallD G (.ref (G.ca c)) (mNew c n dds m) := by
  intro σ W st vs ds Q wk r p
  unfold mNew at p
  by_cases hl : ds.length + dds.length = n
  · rw [if_pos hl] at p
    refine run_new tk Mk1 F hr hb hd fun x dx hx hdx ne => ?_
    -- the world with the new instance, owned
    have hdx' : (W.lay dx (.own x) hdx).h x = none := by
      show upd W.h dx (.own x) x = none
      rw [upd_ne (Ne.symm ne)]; exact hx
    have hp : ((W.lay dx (.own x) hdx).lay x (.ins (G.ca c) dx []) hdx').h x ≠ none := by
      show upd _ x _ x ≠ none
      rw [upd_same]; exact fun z => by cases z
    have e1 : Ext W (W.lay dx (.own x) hdx) := W.lay_ext hdx
    have e2 : Ext (W.lay dx (.own x) hdx) (((W.lay dx (.own x) hdx).lay x (.ins (G.ca c) dx []) hdx').own x hp) := Wd.own_ext (Wd.lay_ext _ hdx') hdx' hp
    have e3 := e1.trans e2
    have w3 : WOk G.X.K G.ca (((W.lay dx (.own x) hdx).lay x (.ins (G.ca c) dx []) hdx').own x hp) st := (wk.lay hdx).own hdx' hp
    refine ⟨x, vs ++ dvs, ((W.lay dx (.own x) hdx).lay x (.ins (G.ca c) dx []) hdx').own x hp, st, ds ++ dds, dx, rfl, rfl, w3, .inr rfl, fun z => W.trk x (W.gav x z) hx, upd_same, (r.append (rd W)).mono e3, by rw [List.length_append]; exact hl, ?_⟩
    have back : ∀ {W' : Wd} (ng : x ∉ W'.g), XtI x (((W.lay dx (.own x) hdx).lay x (.ins (G.ca c) dx []) hdx').own x hp) W' → Ext W (W'.drop x ng) := fun {W'} ng z => by
      have no : ∀ q, W.av q → ∀ i, ¬ Own [some (.ref x)] [.oI 0 []] i q := fun q hq i ho => by
        obtain ⟨h1, _⟩ := ho
        cases i with
        | zero =>
          cases h1
          exact W.trk x hq hx
        | succ i => simp at h1
      refine ⟨fun q o n h => z.keep q o (fun av => ?_) (e3.keep q o n h), fun q h1 h2 => ?_, fun q h1 => ?_, fun q h => ?_, fun q h => e3.stay q (z.stay q h), ?_⟩
      · rcases e3.new q av with y | y
        · exact n y
        · rw [h] at y; cases y
      · exact ((z.own q (e3.av q h1) (e3.kp.nocell h1 h2) (no q h1)).1).trans (e3.own q h1 h2)
      · refine ⟨?_, fun y => by subst y; exact W.trk q h1 hx⟩
        by_cases hg : q ∈ W.g
        · obtain ⟨l, y, _⟩ := z.pre
          exact W'.gav q (by rw [y]; exact List.mem_append_left _ hg)
        · exact (z.own q (e3.av q h1) (e3.kp.nocell h1 hg) (no q h1)).2
      · rcases z.new q h.1 with y | y
        · rcases e3.new q y with y | y
          · exact .inl y
          · exact .inr y
        · exact .inr (e3.stay q y)
      · obtain ⟨l, y, y2⟩ := z.pre
        exact ⟨l, y, fun q hq => e3.stay q (y2 q hq)⟩
    cases hm : m (ds ++ dds) st with
    | bad => rw [hm] at p; exact p
    | exc c' fs st' =>
      rw [hm] at p
      intro dd W' z w' rx
      have ng : x ∉ W'.g := by
        obtain ⟨l, y, y2⟩ := z.pre
        rw [y]
        simp only [List.mem_append, not_or]
        exact ⟨fun q => W.trk x (W.gav x q) hx, fun q => absurd (y2 x q) (by rw [show (((W.lay dx (.own x) hdx).lay x (.ins (G.ca c) dx []) hdx').own x hp).h x = some (.ins (G.ca c) dx []) from upd_same]; exact fun z => by cases z)⟩
      exact p dd (W'.drop x ng) (back ng z) (w'.drop ng) (rx.kp (W'.drop_kp ng))
    | ok fs st' =>
      rw [hm] at p
      exact fun ws dx' W' z w' hv ng hh rf => ⟨rfl, p (.ref x) (W'.drop x ng) (back ng z) (w'.drop ng) (.ins (fun q => q.2 rfl) hh (rf.kp (W'.drop_kp ng)))⟩
  · rw [if_neg hl] at p; exact p.elim
end
end Mi

/-! MiExc: own exceptions raised and caught, their fields, isinstance. -/
namespace Mi
open PySem PySem.Spec PyProof.Rows L2

/-! ### an exception's __init__: self.f = f, field by field -/
def xfs {α : Type} (fs : List Str) (ws : List α) : List (Str × α) := (fs.zip ws).reverse
theorem RepF.append {K : PySem.W.Frag} {ca : Nat → Addr} {W : Wd} : ∀ {a b : List (Str × V)} {c d : Fs}, RepF K ca W a c → RepF K ca W b d → RepF K ca W (a ++ b) (c ++ d)
  | _, _, _, _, .nil, k => k
  | _, _, _, _, .cons r t, k => .cons r (RepF.append t k)
theorem xfs_rep {K : PySem.W.Frag} {ca : Nat → Addr} {W : Wd} : ∀ {fs : List Str} {ws : List V} {ds : List D}, Reps K ca W ws ds → RepF K ca W (xfs fs ws) (xfs fs ds)
  | [], _, _, _ => .nil
  | f :: fs, _, _, .nil => .nil
  | f :: fs, _, _, .cons r1 rr => by
    have ih := xfs_rep (fs := fs) rr
    unfold xfs at ih ⊢
    rw [List.zip_cons_cons, List.zip_cons_cons, List.reverse_cons, List.reverse_cons]
    exact RepF.append ih (.cons r1 .nil)
/-- what it promises: the exception at a gets its dict -/
def spX (C : Addr) (fs : List Str) : Sp := fun vs H Q _ => ∃ (a : Addr) (ws : List V), vs = .ref a :: ws ∧ ws.length = fs.length ∧ H a = some (exo a C none) ∧
  ∀ dx H', H dx = none → dx ≠ a → (∀ b, b ≠ a → b ≠ dx → H' b = H b) → H' a = some (exo a C (some dx)) → H' dx = some (exd dx (xfs fs ws)) → Q .non H'

section
variable {G : Gx} {C fI : Addr} {k c : Nat} {fd : FuncData} {ps : List Str} {x : Str} {p pos : Pos} {e : Expr} {es : List Expr} {aa : AM} {fs : List Str}
def sRaise (c n : Nat) (fs : List Str) (a : AM) : SM := fun env st => (a env st).go env fun ds s => if ds.length = n then .exc env c (xfs fs ds) s else .bad
/-- raise X(e, ..), X with such an __init__ -/
theorem rs_raise (hc : G.X.calm = true) (tk : Takes G.X G.E) (T : OexC G.X.K (G.ca c)) (iC : PySem.W.findIn G.X.K (.ref (G.ca c)) "__init__" = some (some (.ref fI))) (tI : PySem.W.typeIn G.X.K (.ref fI) = some (.type "function"))
    (F : FnOk G.X.prog G.X.w G.X.K G.X.mg G.X.base (L2.CX G.X.prog G.X.w) k fI fd ps (spX (G.ca c) fs)) (hr : Room (k + 1) G.X.A) (hb : Binds G.X.K fd ps []) (hg : Gl G.X x) (hm : G.X.mg x = some (.ref (G.ca c))) (ha : RA G (e :: es) aa) (hl : fs.length ≤ 1000)
    (hdb : (x == ("__debug__" : Str)) = false := by decide) (he : starEach (e :: es) G.X.env = (false, eval e G.X.env) :: starEach es G.X.env := by rfl) (hpl : (backTo pos (starEach es G.X.env)).any (·.1) = false := by rfl) {pos2 : Pos} :
    RS G (.Raise (some (.Call (.Name x p) (e :: es) [] pos)) none pos2) (sRaise c fs.length fs aa) := by
  intro σ W env st Dn w re hp
  refine qs_of (ps_raise hc tk (pmk_oex T iC tI F hr hb .nil passL hg hm pa_q hdb he hpl)) ?_
  refine ha σ W env st _ w re (bindAS re hp fun ds s1 vs W1 e1 w1 r1 re1 p1 => ?_)
  by_cases hn : ds.length = fs.length
  · rw [if_pos hn] at p1
    have hv : vs.length = fs.length := r1.length.trans hn
    refine ⟨by omega, fun a hna => ?_⟩
    refine ⟨a, vs ++ [], rfl, by rw [List.append_nil]; exact hv, upd_same, fun dx H' hd ne hk h1 h2 => ?_⟩
    rw [List.append_nil] at h2
    have hd1 : W1.h dx = none := by
      rw [upd_ne ne] at hd
      exact hd
    refine ⟨rfl, dx, xfs fs vs, h1, h2, hd1, ?_⟩
    have hH : upd (del H' a) dx (.xd (xfs fs vs)) = (W1.lay dx (.xd (xfs fs vs)) hd1).h := by
      funext b
      show upd (del H' a) dx (.xd (xfs fs vs)) b = upd W1.h dx (.xd (xfs fs vs)) b
      by_cases eb : b = dx
      · subst eb
        rw [upd_same, upd_same]
      · rw [upd_ne eb, upd_ne eb]
        by_cases ea : b = a
        · subst ea
          rw [del_same, hna]
        · rw [del_ne ea, hk b ea eb, upd_ne ea]
    rw [hH]
    have x1 := W1.lay_ext (o := .xd (xfs fs vs)) hd1
    exact p1 σ (some dx) _ (x1.s σ env) (w1.lay hd1) (re1.mono x1) (.inr ⟨dx, _, rfl, W1.lay_nav hd1, upd_same, (xfs_rep r1).mono x1⟩)
  · rw [if_neg hn] at p1; exact p1.elim
end

/-! ### try .. except -/
/-- the suite's exceptions are gone behind it -/
def clr (env : En) : En := env.map fun s => match s with
  | .ex _ _ => .no
  | s => s
theorem clr_get {env : En} {i : Nat} {s : Slot} (h : (clr env)[i]? = some s) : (∀ c fs, s ≠ .ex c fs) ∧ (s = .no ∨ env[i]? = some s) := by
  unfold clr at h
  rw [List.getElem?_map] at h
  cases e : env[i]? with
  | none => rw [e] at h; cases h
  | some t =>
    rw [e] at h
    cases t with
    | no => cases h; exact ⟨(fun _ _ z => by cases z), .inl rfl⟩
    | sh d => cases h; exact ⟨(fun _ _ z => by cases z), .inr rfl⟩
    | oL d => cases h; exact ⟨(fun _ _ z => by cases z), .inr rfl⟩
    | oI c d => cases h; exact ⟨(fun _ _ z => by cases z), .inr rfl⟩
    | ex c d => cases h; exact ⟨(fun _ _ z => by cases z), .inl rfl⟩
theorem clr_own {σ : L2.St} {env : En} {i : Nat} {p : Addr} (h : Own σ (clr env) i p) : Own σ env i p := by
  obtain ⟨h1, s, h2, h3⟩ := h
  rcases (clr_get h2).2 with e | e
  · subst e; cases h3
  · exact ⟨h1, s, e, h3⟩
theorem clr_ok {K : PySem.W.Frag} {ca : Nat → Addr} {xc xc' : XC} {W : Wd} {σ : L2.St} {env : En} (r : RepE K ca xc W σ env) : RepE K ca xc' W σ (clr env) where
  len := by unfold clr; rw [List.length_map]; exact r.len
  sh := fun i d h => by
    rcases (clr_get h).2 with e | e
    · cases e
    · exact r.sh i d e
  oL := fun i d h => by
    rcases (clr_get h).2 with e | e
    · cases e
    · exact r.oL i d e
  oI := fun i c d h => by
    rcases (clr_get h).2 with e | e
    · cases e
    · exact r.oI i c d e
  ex := fun i c d h => absurd rfl ((clr_get h).1 c d)
  sep := fun i j p h1 h2 => r.sep i j p (clr_own h1) (clr_own h2)
theorem clr_ext (W : Wd) (σ : L2.St) (env : En) : ExtS W σ env W σ (clr env) :=
  ⟨fun _ _ _ h => h, fun p h _ _ => ⟨rfl, h⟩, fun _ h => .inl h, fun _ h => h, ⟨[], by simp, fun _ h => by simp at h⟩, fun j p h => .inl ⟨j, clr_own h⟩, fun j p ⟨h1, c, fs, h2⟩ => by
    rcases (clr_get h2).2 with e | e
    · cases e
    · exact ⟨j, h1, c, fs, e⟩⟩
/-- behind the suite of a clause that names slot i -/
def suiteEnd (i : Option Nat) (r : SRes) : SRes := match r with
  | .nx env st => .nx (match i with | some i => (clr env).set i .no | none => clr env) st
  | .bk env st => .bk (match i with | some i => (clr env).set i .no | none => clr env) st
  | .ct env st => .ct (match i with | some i => (clr env).set i .no | none => clr env) st
  | .rt d st => .rt d st
  | _ => .bad
def sTry (sub : Nat → Option Bool) (i : Option Nat) (mb ms : SM) : SM := fun env st => match mb env st with
  | .exc env' c fs st' => (match sub c with
    | some true => suiteEnd i (ms (match i with | some i => env'.set i (.ex c fs) | none => env') st')
    | some false => .exc env' c fs st'
    | none => .bad)
  | r => r
abbrev Gx.tr (G : Gx) (W : WX) (pn : List (Addr × Obj)) (xe : Value → Shared → Prop) : Gx := ⟨G.X.tr pn xe, G.ca, W, G.xc⟩
abbrev Gx.su (G : Gx) (a : Addr) (oe : Obj) (cls : Value) (d : Option Addr) (pn : List (Addr × Obj)) : Gx := ⟨G.X.suite a ((a, oe) :: pn), G.ca, fun _ _ _ _ => False, some (a, cls, d)⟩
section
variable {G : Gx} {x n : Str} {cv : Value} {i : Nat} {body suite : List Stmt} {b₀ : Stmt} {np pos pos' : Pos} {mb ms : SM} {sub : Nat → Option Bool}
theorem rs_try_as (hst : G.X.stack = G.X.env :: G.X.outer) (hfr : G.X.env.frame = some G.X.env.locals) (hN : G.X.N.Nodup) (hi : G.X.N[i]? = some n) (hln : G.X.env.kindOf n = some .local) (hc : Names G.X x cv) (tk : Takes G.X G.E)
    (hsub : ∀ c b, sub c = some b → PySem.W.exmOne G.X.K (.ref (G.ca c)) cv = some b)
    (hb : ∀ (W : WX) (pn : List (Addr × Obj)) (xe : Value → Shared → Prop), Takes (G.X.tr pn xe) W → PassesOwn (model G.X.prog G.X.w) G.X.A G.X.env xe → RSs (G.tr W pn xe) body mb)
    (hsu : ∀ (a : Addr) (oe : Obj) (cls : Value) (d : Option Addr) (pn : List (Addr × Obj)), Zc cls d oe → (∃ vs, oe.data = .fields vs) → RSs (G.su a oe cls d pn) (b₀ :: suite) ms) (hx : G.xc = none) :
    RS G (.Try body [.ExceptHandler (some (.Name x np)) (some n) (b₀ :: suite) pos'] [] [] pos) (sTry sub (some i) mb ms) := by
  intro σ W env st Dn w re hp
  refine qs_of (ps_try_as (Wout := G.E) (tb := fun W' D σ H => ∀ pn xe, Takes (G.X.tr pn xe) W' → PassesOwn (model G.X.prog G.X.w) G.X.A G.X.env xe → QSs (G.tr W' pn xe) body D σ H)
    (ts := fun a cls d D σ H => ∀ oe pn, Zc cls d oe → (∃ vs, oe.data = .fields vs) → QSs (G.su a oe cls d pn) (b₀ :: suite) D σ H) hst hfr hN hi hln hc tk
    (fun W' pn xe t1 t2 => ⟨fun pins s σ H D I h => h pn xe t1 t2 pins s I⟩) (fun a oe cls d pn z1 z2 => ⟨fun pins s σ H D I h => h oe pn z1 z2 pins s I⟩)) ?_
  intro pn xe t1 t2
  refine hb _ pn xe t1 t2 σ W env st Dn w re ?_
  unfold sTry at hp
  cases hm : mb env st with
  | nx env' st' => rw [hm] at hp; exact hp
  | rt d st' => rw [hm] at hp; exact hp
  | bk env' st' => rw [hm] at hp; exact hp
  | ct env' st' => rw [hm] at hp; exact hp
  | bad => rw [hm] at hp; exact hp
  | exc env' c fs st' =>
    rw [hm] at hp
    dsimp only at hp
    intro σ1 dd W1 x1 w1 re1 rx
    cases hs : sub c with
    | none => rw [hs] at hp; exact hp.elim
    | some b =>
      rw [hs] at hp
      refine ⟨b, hsub c b hs, fun hbt a ha oe pn2 z1 z2 => ?_, fun hbf => ?_⟩
      · subst hbt
        dsimp only at hp
        refine hsu a oe _ dd pn2 z1 z2 _ W1 (env'.set i (.ex c fs)) st' _ w1 ?_ ?_
        · have r0 : RepE G.X.K G.ca (some (a, Value.ref (G.ca c), dd)) W1 σ1 env' := by
            refine ⟨re1.len, re1.sh, re1.oL, re1.oI, fun j c' fs' h => ?_, re1.sep⟩
            obtain ⟨a', d', h1, _⟩ := re1.ex j c' fs' h
            have h1 : G.xc = _ := h1
            rw [hx] at h1
            cases h1
          refine r0.put rfl (fun d' e => by cases e) (fun c' fs' e => ?_)
          cases e
          exact ⟨a, dd, rfl, rfl, rx⟩
        · have hp1 : PostS G W1 σ1 env' (suiteEnd (some i) (ms (env'.set i (.ex c fs)) st')) Dn := PostS.mono x1 hp
          have x2 : ExtS W1 σ1 env' W1 (σ1.set i (some (.ref a))) (env'.set i (.ex c fs)) := ExtS.set W1 σ1 env' rfl
          have fin : ∀ {σ3 W3 env3 st3}, ExtS W1 (σ1.set i (some (.ref a))) (env'.set i (.ex c fs)) W3 σ3 env3 → WOk G.X.K G.ca W3 st3 → RepE G.X.K G.ca (some (a, Value.ref (G.ca c), dd)) W3 σ3 env3 →
              ExtS W1 σ1 env' W3 (σ3.set i none) ((clr env3).set i .no) ∧ RepE G.X.K G.ca G.xc W3 (σ3.set i none) ((clr env3).set i .no) := fun {σ3 W3 env3 st3} e3 w3 re3 =>
            ⟨(x2.trans e3).trans ((clr_ext W3 σ3 env3).trans (ExtS.set W3 σ3 (clr env3) rfl)), (clr_ok re3).wipe1⟩
          cases hms : ms (env'.set i (.ex c fs)) st' with
          | nx env3 st3 => rw [hms] at hp1; exact fun σ3 W3 e3 w3 re3 => hp1 _ W3 (fin e3 w3 re3).1 w3 (fin e3 w3 re3).2
          | bk env3 st3 => rw [hms] at hp1; exact fun σ3 W3 e3 w3 re3 => hp1 _ W3 (fin e3 w3 re3).1 w3 (fin e3 w3 re3).2
          | ct env3 st3 => rw [hms] at hp1; exact fun σ3 W3 e3 w3 re3 => hp1 _ W3 (fin e3 w3 re3).1 w3 (fin e3 w3 re3).2
          | rt d3 st3 => rw [hms] at hp1; exact fun v W3 e3 w3 r3 => hp1 v W3 (x2.trans e3) w3 r3
          | exc env3 c3 fs3 st3 => rw [hms] at hp1; exact hp1.elim
          | bad => rw [hms] at hp1; exact hp1.elim
      · subst hbf
        exact hp σ1 dd W1 x1 w1 re1 rx
theorem rs_try_only (hst : G.X.stack = G.X.env :: G.X.outer) (hfr : G.X.env.frame = some G.X.env.locals) (hc : Names G.X x cv) (tk : Takes G.X G.E)
    (hsub : ∀ c b, sub c = some b → PySem.W.exmOne G.X.K (.ref (G.ca c)) cv = some b)
    (hb : ∀ (W : WX) (pn : List (Addr × Obj)) (xe : Value → Shared → Prop), Takes (G.X.tr pn xe) W → PassesOwn (model G.X.prog G.X.w) G.X.A G.X.env xe → RSs (G.tr W pn xe) body mb)
    (hsu : ∀ (a : Addr) (oe : Obj) (cls : Value) (d : Option Addr) (pn : List (Addr × Obj)), Zc cls d oe → (∃ vs, oe.data = .fields vs) → RSs (G.su a oe cls d pn) (b₀ :: suite) ms) (hx : G.xc = none) :
    RS G (.Try body [.ExceptHandler (some (.Name x np)) none (b₀ :: suite) pos'] [] [] pos) (sTry sub none mb ms) := by
  intro σ W env st Dn w re hp
  refine qs_of (ps_try_only (Wout := G.E) (tb := fun W' D σ H => ∀ pn xe, Takes (G.X.tr pn xe) W' → PassesOwn (model G.X.prog G.X.w) G.X.A G.X.env xe → QSs (G.tr W' pn xe) body D σ H)
    (ts := fun a cls d D σ H => ∀ oe pn, Zc cls d oe → (∃ vs, oe.data = .fields vs) → QSs (G.su a oe cls d pn) (b₀ :: suite) D σ H) hst hfr hc tk
    (fun W' pn xe t1 t2 => ⟨fun pins s σ H D I h => h pn xe t1 t2 pins s I⟩) (fun a oe cls d pn z1 z2 => ⟨fun pins s σ H D I h => h oe pn z1 z2 pins s I⟩)) ?_
  intro pn xe t1 t2
  refine hb _ pn xe t1 t2 σ W env st Dn w re ?_
  unfold sTry at hp
  cases hm : mb env st with
  | nx env' st' => rw [hm] at hp; exact hp
  | rt d st' => rw [hm] at hp; exact hp
  | bk env' st' => rw [hm] at hp; exact hp
  | ct env' st' => rw [hm] at hp; exact hp
  | bad => rw [hm] at hp; exact hp
  | exc env' c fs st' =>
    rw [hm] at hp
    dsimp only at hp
    intro σ1 dd W1 x1 w1 re1 rx
    cases hs : sub c with
    | none => rw [hs] at hp; exact hp.elim
    | some b =>
      rw [hs] at hp
      refine ⟨b, hsub c b hs, fun hbt a ha oe pn2 z1 z2 => ?_, fun hbf => ?_⟩
      · subst hbt
        dsimp only at hp
        refine hsu a oe _ dd pn2 z1 z2 _ W1 env' st' _ w1 ?_ ?_
        · refine ⟨re1.len, re1.sh, re1.oL, re1.oI, fun j c' fs' h => ?_, re1.sep⟩
          obtain ⟨a', d', h1, _⟩ := re1.ex j c' fs' h
          have h1 : G.xc = _ := h1
          rw [hx] at h1
          cases h1
        · have hp1 : PostS G W1 σ1 env' (suiteEnd none (ms env' st')) Dn := PostS.mono x1 hp
          have fin : ∀ {σ3 W3 env3 st3}, ExtS W1 σ1 env' W3 σ3 env3 → WOk G.X.K G.ca W3 st3 → RepE G.X.K G.ca (some (a, Value.ref (G.ca c), dd)) W3 σ3 env3 → ExtS W1 σ1 env' W3 σ3 (clr env3) ∧ RepE G.X.K G.ca G.xc W3 σ3 (clr env3) := fun {σ3 W3 env3 st3} e3 w3 re3 =>
            ⟨e3.trans (clr_ext W3 σ3 env3), clr_ok re3⟩
          cases hms : ms env' st' with
          | nx env3 st3 => rw [hms] at hp1; exact fun σ3 W3 e3 w3 re3 => hp1 _ W3 (fin e3 w3 re3).1 w3 (fin e3 w3 re3).2
          | bk env3 st3 => rw [hms] at hp1; exact fun σ3 W3 e3 w3 re3 => hp1 _ W3 (fin e3 w3 re3).1 w3 (fin e3 w3 re3).2
          | ct env3 st3 => rw [hms] at hp1; exact fun σ3 W3 e3 w3 re3 => hp1 _ W3 (fin e3 w3 re3).1 w3 (fin e3 w3 re3).2
          | rt d3 st3 => rw [hms] at hp1; exact fun v W3 e3 w3 r3 => hp1 v W3 e3 w3 r3
          | exc env3 c3 fs3 st3 => rw [hms] at hp1; exact hp1.elim
          | bad => rw [hms] at hp1; exact hp1.elim
      · subst hbf
        exact hp σ1 dd W1 x1 w1 re1 rx

/-! ### in a suite: the exception's field, isinstance -/
variable {a : Addr} {oe : Obj} {cls : Value} {d : Option Addr} {pn : List (Addr × Obj)} {e e2 : Expr} {cs : List Nat} {f : Str}
def eXf (cs : List Nat) (i : Nat) (f : Str) : EM := fun env st => match env[i]? with
  | some (.ex c fs) => if cs.contains c = true then (match fs.lookup f with
    | some d => .ok d st
    | none => .bad) else .bad
  | _ => .bad
theorem re_xf (hf : ∀ c ∈ cs, XfC G.X.K (G.ca c) ∧ PySem.W.findIn G.X.K (.ref (G.ca c)) f = some none) (hz : Zc cls d oe) (hd : ∃ vs, oe.data = .fields vs) (he : PE (G.X.suite a ((a, oe) :: pn)) e (tVar i)) (hb : attributeBase e f G.X.env (eval e G.X.env) = eval e G.X.env := by rfl) :
    RE (G.su a oe cls d pn) (.Attribute e f pos) (eXf cs i f) := by
  intro σ W env st Q w re hp
  unfold eXf at hp
  cases h : env[i]? with
  | none => rw [h] at hp; exact hp.elim
  | some s =>
    rw [h] at hp
    cases s with
    | ex c fs =>
      dsimp only at hp
      by_cases hcs : cs.contains c = true
      · rw [if_pos hcs] at hp
        cases hl : fs.lookup f with
        | none => rw [hl] at hp; exact hp.elim
        | some d2 =>
          rw [hl] at hp
          obtain ⟨a', d', h1, h2, h3⟩ := re.ex i c fs h
          have h1 : (some (a, cls, d) : XC) = some (a', .ref (G.ca c), d') := h1
          injection h1 with h1
          injection h1 with h1 h1'
          injection h1' with h1' h1''
          subst h1 h1' h1''
          obtain ⟨g1, g2⟩ := hf c (by simpa using hcs)
          refine qe_of (pe_xf g1 g2 hz hd he hb) ?_
          rcases h3 with ⟨h3, _⟩ | ⟨p, ws, rfl, h4, h5, h6⟩
          · subst h3; cases hl
          · obtain ⟨v, g3, g4⟩ := h6.look hl
            exact ⟨.ref a, h2, rfl, rfl, p, ws, v, rfl, h5, g3, hp v W (Ext.refl W) w g4⟩
      · rw [if_neg hcs] at hp; exact hp.elim
    | no => exact hp.elim
    | sh d => exact hp.elim
    | oL d => exact hp.elim
    | oI c d => exact hp.elim
/-- isinstance(e, C), e the suite's exception -/
def eIsX (sub : Nat → Option Bool) (i : Nat) : EM := fun env st => match env[i]? with
  | some (.ex c _) => (match sub c with
    | some b => .ok (.bl b) st
    | none => .bad)
  | _ => .bad
theorem re_isX {v2 : V} {p p1 : Pos} (hK : ∀ c, (sub c).isSome = true → ExcC G.X.K (G.ca c) ∧ (PySem.W.clsIn G.X.K (G.ca c)).isSome = true) (hsub : ∀ c b, sub c = some b → PySem.W.kitOne G.X.K (.ref (G.ca c)) cv = some b) (hv2 : ∀ u, RelV v2 u → u = cv) (hz : Zc cls d oe) (hd : ∃ vs, oe.data = .fields vs)
    (he : PE (G.X.suite a ((a, oe) :: pn)) e (tVar i)) (he2 : PE (G.X.suite a ((a, oe) :: pn)) e2 (tC v2)) (hg : Gl (G.X.suite a ((a, oe) :: pn)) "isinstance") (hm : G.X.mg "isinstance" = none)
    (hs1 : starEach (e :: [e2]) G.X.env = (false, eval e G.X.env) :: starEach [e2] G.X.env := by rfl) (hs2 : starEach (e2 :: []) G.X.env = (false, eval e2 G.X.env) :: starEach [] G.X.env := by rfl) (hpl : (backTo pos (starEach [e2] G.X.env)).any (·.1) = false := by rfl) :
    RE (G.su a oe cls d pn) (.Call (.Name "isinstance" p) [e, e2] [] pos) (eIsX sub i) := by
  intro σ W env st Q w re hp
  unfold eIsX at hp
  cases h : env[i]? with
  | none => rw [h] at hp; exact hp.elim
  | some s =>
    rw [h] at hp
    cases s with
    | ex c fs =>
      dsimp only at hp
      cases hsc : sub c with
      | none => rw [hsc] at hp; exact hp.elim
      | some b =>
        rw [hsc] at hp
        obtain ⟨a', d', h1, h2, h3⟩ := re.ex i c fs h
        have h1 : (some (a, cls, d) : XC) = some (a', .ref (G.ca c), d') := h1
        injection h1 with h1
        injection h1 with h1 h1'
        injection h1' with h1' h1''
        subst h1 h1' h1''
        obtain ⟨K1, K2⟩ := hK c (by rw [hsc]; rfl)
        have hcr : CallR (G.X.suite a ((a, oe) :: pn)) (.builtin "isinstance") (fun xs H Q => xs = [.ref a, v2] ∧ H = W.h ∧ Q (.bl b) H) := by
          intro pins s σ H xs us Q I r hh
          obtain ⟨rfl, rfl, q⟩ := hh
          cases r with
          | cons rx rr =>
            cases rr with
            | cons rt rr =>
              cases rr
              cases rx
              have ec := hv2 _ rt
              subst ec
              obtain ⟨hget, _⟩ := I.pin (a, oe) (List.mem_append.mpr (.inl List.mem_cons_self))
              have J : ∃ od, PySem.W.InstAt s.heap a oe (G.ca c) od := by
                obtain ⟨vs, hdv⟩ := hd
                have nc : PySem.W.notCls oe = true := by unfold PySem.W.notCls; rw [hdv] <;> rfl
                rcases h3 with ⟨_, rfl⟩ | ⟨q1, ws, rfl, _, h5, _⟩
                · exact ⟨none, hget, hz.1, nc, by rw [hz.2]; trivial⟩
                · obtain ⟨mA, hns, _⟩ := (show ObjOk G.X.prog G.X.w W.h s.heap q1 (.xd ws) from I.hok q1 _ h5)
                  obtain ⟨od, ho, _⟩ := lookIn_ns hns
                  exact ⟨some od, hget, hz.1, nc, by rw [hz.2]; exact ho⟩
              obtain ⟨od, J⟩ := J
              exact PySem.W.kia_one (PySem.W.kitx_exc K2 K1.hg K1.hk K1.hs K1.ha K1.hn K1.ht K1.hm) I.kIn J (hsub c b hsc) (fun z => nomatch z) fun tk => ⟨.bl b, W.h, I.kept (t' := tk) fun _ _ z => z, rfl, q⟩
        refine qe_of (pe_callB hcr hg hm (by decide +kernel) (pa_cons he (pa_cons he2 pa_nil hs2) hs1) (by decide) (by decide) hs1 hpl) ?_
        exact ⟨.ref a, h2, rfl, rfl, hp (.bl b) W (Ext.refl W) w (.bl b)⟩
    | no => exact hp.elim
    | sh d => exact hp.elim
    | oL d => exact hp.elim
    | oI c d => exact hp.elim
end
end Mi

/-! MiVal: operators, comparisons, truth and built-ins on data. -/
namespace Mi
open PySem PySem.Spec PyProof.Rows L2

/-! ### reading sequences off a tree -/
theorem Rep.sqL {K : PySem.W.Frag} {ca : Nat → Addr} {W : Wd} {x : V} {ds : List D} (r : Rep K ca W x (.lst ds)) : ∃ p xs, x = .ref p ∧ SqL K W.h p xs ∧ Reps K ca W xs ds := by
  cases r with
  | lst n h r => exact ⟨_, _, rfl, .inl (.inl h), r⟩
theorem Rep.sqF {K : PySem.W.Frag} {ca : Nat → Addr} {W : Wd} {x : V} {ds : List D} (r : Rep K ca W x (.fix ds)) : ∃ p xs, x = .ref p ∧ SqL K W.h p xs ∧ Reps K ca W xs ds := by
  cases r with
  | fix n h r => exact ⟨_, _, rfl, .inl h, r⟩
  | fixK h r => exact ⟨_, _, rfl, h.sq, r⟩
theorem Rep.atL {K : PySem.W.Frag} {ca : Nat → Addr} {W : Wd} {x : V} {ds : List D} (r : Rep K ca W x (.lst ds)) : ∃ p xs, x = .ref p ∧ ¬ W.av p ∧ W.h p = some (.lst xs) ∧ Reps K ca W xs ds := by
  cases r with
  | lst n h r => exact ⟨_, _, rfl, n, h, r⟩
theorem Rep.sqT {K : PySem.W.Frag} {ca : Nat → Addr} {W : Wd} {x : V} {ds : List D} (r : Rep K ca W x (.tup ds)) : ∃ p xs, x = .ref p ∧ SqT K W.h p xs ∧ Reps K ca W xs ds := by
  cases r with
  | tup n h r => exact ⟨_, _, rfl, .inl h, r⟩
  | tupK h r => exact ⟨_, _, rfl, h.sq, r⟩
/-- the list that a value is: a tree or a cell -/
def seqOf (d : D) (st : Sto) : Option (List D) := match d with
  | .lst ds => some ds
  | .fix ds => some ds
  | .cell n => match st[n]? with
    | some (.lst ds) => some ds
    | _ => none
  | _ => none
theorem seqOf_at {K : PySem.W.Frag} {ca : Nat → Addr} {W : Wd} {st : Sto} {x : V} {d : D} {ds : List D} (wk : WOk K ca W st) (r : Rep K ca W x d) (h : seqOf d st = some ds) : ∃ p xs, x = .ref p ∧ SqL K W.h p xs ∧ Reps K ca W xs ds := by
  cases d with
  | lst es => cases h; exact r.sqL
  | fix es => cases h; exact r.sqF
  | cell n =>
    unfold seqOf at h
    dsimp only at h
    cases e : st[n]? with
    | none => rw [e] at h; cases h
    | some c =>
      rw [e] at h
      cases c with
      | lst es =>
        cases h
        cases r with
        | cell hg =>
          obtain ⟨xs, h1, h2⟩ := wk.cell n _ _ hg e
          exact ⟨_, xs, rfl, .inl (.inl h1), h2⟩
      | ins _ _ => cases h
      | dk _ => cases h
  | _ => cases h

/-! ### own defs, wherever they are called from -/
structure Df (G : Gx) (k : Nat) (f : Addr) (n : Nat) (m : List D → M D) : Prop where
  ok : ∃ fd ps, FnOk G.X.prog G.X.w G.X.K G.X.mg G.X.base (L2.CX G.X.prog G.X.w) k f fd ps (spM G.X.K G.ca n m) ∧ Binds G.X.K fd ps []
theorem Df.code {G : Gx} {k : Nat} {f : Addr} {n : Nat} {m : List D → M D} (F : Df G k f n m) (tk : Takes G.X G.E) {A' : Around} (hr : Room k A') (hA : A'.frames = G.X.A.frames) {σ : L2.St} {W : Wd} {st : Sto} {vs : List V} {ds : List D} {Q : VK} (wk : WOk G.X.K G.ca W st) (r : Reps G.X.K G.ca W vs ds)
    (hn : ds.length = n) (p : Post G W σ (m ds st) Q) {pins : List (Addr × Obj)} {s : Shared} {us : List Value} (I : Inv G.X pins σ W.h s) (rv : Vals vs us) : codeAny (model G.X.prog G.X.w) A' (.call (.ref f) ⟨us, []⟩) (fun r s' => match r with | .ok (.ret v) => EP G.X pins σ Q v s' | .ok _ => False | .error e => G.X.xe e s') s := by
  obtain ⟨fd, ps, F, hb⟩ := F.ok
  have h : spM G.X.K G.ca n m vs W.h Q (fun c d H' => G.E c d σ H') := ⟨W, st, ds, rfl, wk, r, hn, p⟩
  have hl : (us ++ []).length = ps.length := by
    rw [List.append_nil, ← rv.length]
    exact F.len _ _ _ _ h
  have e0 : Env0 G.X.prog G.X.w G.X.K G.X.mg G.X.base A' G.X.stack s W.h := by
    have e := I.env0
    exact ⟨by rw [hA]; exact e.frames, e.mod, e.bs, e.bsz, e.funs, e.frf, e.hok, e.bare⟩
  have bd := hb s us I.kIn hl
  rw [List.append_nil] at bd
  refine codeAny_mono (F.run A' G.X.stack s W.h ⟨us, []⟩ us vs Q _ hr e0 bd rv h) fun res s' hq => ?_
  cases res with
  | error ex => exact tk ex s' (XE.of_call I (fun _ _ _ z => z) hq)
  | ok fl =>
    cases fl with
    | ret u => exact I.after hq
    | next => exact hq.elim
    | brk => exact hq.elim
    | cont => exact hq.elim
theorem Df.run {G : Gx} {k : Nat} {f : Addr} {n : Nat} {m : List D → M D} (F : Df G k f n m) (tk : Takes G.X G.E) {A' : Around} (hr : Room k A') (hA : A'.frames = G.X.A.frames) {σ : L2.St} {W : Wd} {st : Sto} {vs : List V} {ds : List D} {Q : VK} (wk : WOk G.X.K G.ca W st) (r : Reps G.X.K G.ca W vs ds)
    (hn : ds.length = n) (p : Post G W σ (m ds st) Q) {pins : List (Addr × Obj)} {s : Shared} {us : List Value} (I : Inv G.X pins σ W.h s) (rv : Vals vs us) : wpAny (model G.X.prog G.X.w) A' (call (.ref f) us) (EP G.X pins σ Q) G.X.xe s :=
  wpAny_call (F.code tk hr hA wk r hn p I rv)
theorem in1_frames (A : Around) : A.in1.frames = A.frames := rfl
/-- special methods by class -/
abbrev Tab := List (Nat × (List D → M D))
def TabOk (G : Gx) (k : Nat) (name : Str) (n : Nat) (tab : Tab) : Prop := ∀ c g, tab.lookup c = some g → ∃ f, Df G k f n g ∧ PySem.W.findIn G.X.K (.ref (G.ca c)) name = some (some (.ref f)) ∧ PySem.W.isFn G.X.K (.ref f) = true ∧ PySem.W.selfFirst G.X.K (G.ca c) = true
theorem tb_nil {G : Gx} {k : Nat} {name : Str} {n : Nat} : TabOk G k name n [] := fun c g h => by cases h
theorem tb_cons {G : Gx} {k : Nat} {name : Str} {n c : Nat} {f : Addr} {g : List D → M D} {tab : Tab} (h1 : Df G k f n g) (h2 : PySem.W.findIn G.X.K (.ref (G.ca c)) name = some (some (.ref f))) (h3 : PySem.W.isFn G.X.K (.ref f) = true) (h4 : PySem.W.selfFirst G.X.K (G.ca c) = true) (t : TabOk G k name n tab) : TabOk G k name n ((c, g) :: tab) := fun c' g' e => by
  rw [List.lookup_cons] at e
  cases q : c' == c with
  | true =>
    rw [q] at e
    cases e
    rw [beq_iff_eq.mp q]
    exact ⟨f, h1, h2, h3, h4⟩
  | false => rw [q] at e; exact t c' g' e
theorem Df.mono {G : Gx} {j k : Nat} {f : Addr} {n : Nat} {m : List D → M D} (F : Df G j f n m) (h : j ≤ k) : Df G k f n m := by
  obtain ⟨fd, ps, F, b⟩ := F.ok
  exact ⟨fd, ps, F.mono h, b⟩
/-- an instance as the machine sees it -/
theorem inst_at {X : Cx} {pins : List (Addr × Obj)} {σ : L2.St} {H : Hp} {s : Shared} {a C dx : Addr} {ws : List (Str × V)} (I : Inv X pins σ H s) (h : H a = some (.ins C dx ws)) : ∃ ox od, PySem.W.InstAt s.heap a ox C (some od) := by
  obtain ⟨mA, J, _⟩ := ins_get I.hok h
  obtain ⟨od, J, _⟩ := J.look
  exact ⟨_, od, J⟩
/-- both of one own class -/
def ownOp (tab : Tab) (x y : D) : M D := fun st => match clsOf x st, clsOf y st with
  | some (c, _), some (c', _) => if c = c' then (match tab.lookup c with
    | some g => g [x, y] st
    | none => .bad) else .bad
  | _, _ => .bad
theorem cmpBack {X : Cx} {pins : List (Addr × Obj)} {σ : L2.St} {Q : VK} {v : Value} {s : Shared} (h : EP X pins σ Q v s) : PySem.W.CmpBack (EP X pins σ Q) v s := by
  obtain ⟨z, H', I', r, q⟩ := h
  cases v with
  | notImplemented => cases z <;> first | (obtain ⟨_, e⟩ := r; cases e) | cases r
  | _ => exact ⟨z, H', I', r, q⟩
section
variable {G : Gx} {k : Nat} {tab : Tab}
theorem own_bin {op : Operator} {σ : L2.St} {W : Wd} {st : Sto} {x y : V} {dx dy : D} {Q : VK} (tk : Takes G.X G.E) (hr : Room k G.X.A) (ht : TabOk G k (PySem.dunder op.info.2) 2 tab) (wk : WOk G.X.K G.ca W st) (rx : Rep G.X.K G.ca W x dx) (ry : Rep G.X.K G.ca W y dy)
    (p : Post G W σ (ownOp tab dx dy st) Q) : QO G (binaryOp op) σ x y W.h Q := by
  unfold ownOp at p
  cases h1 : clsOf dx st with
  | none => rw [h1] at p; exact p.elim
  | some cf =>
    obtain ⟨c, fs⟩ := cf
    rw [h1] at p
    cases h2 : clsOf dy st with
    | none => rw [h2] at p; exact p.elim
    | some cf2 =>
      obtain ⟨c2, fs2⟩ := cf2
      rw [h2] at p
      dsimp only at p
      by_cases hc : c = c2
      · rw [if_pos hc] at p
        subst hc
        cases hg : tab.lookup c with
        | none => rw [hg] at p; exact p.elim
        | some g =>
          rw [hg] at p
          obtain ⟨f, D1, f1, f2, f3⟩ := ht c g hg
          obtain ⟨a, d1, ws, rfl, ha, _⟩ := clsOf_at wk rx h1
          obtain ⟨b, d2, ws2, rfl, hb, _⟩ := clsOf_at wk ry h2
          intro pins s v u I rv ru
          cases rv
          cases ru
          obtain ⟨ox, od, J⟩ := inst_at I ha
          obtain ⟨oy, od2, J2⟩ := inst_at I hb
          obtain ⟨m, hF⟩ := I.fr
          refine PySem.W.binop_K hF I.ok.mod.kin J J2.type f3 f1 f2 ?_
          exact thn (D1.run tk hr rfl wk (.cons rx (.cons ry .nil)) rfl p I (.cons rfl (.cons rfl .nil))) fun _ _ z => cmpBack z
      · rw [if_neg hc] at p; exact p.elim

/-! ### + - * // % ** & | ^ -/
def opAdd (tab : Tab) : D → D → M D := fun x y st => match x, y with
  | .int i, .int j => .ok (.int (i + j)) st
  | .str a, .str b => if a.length + b.length ≤ LIM then .ok (.str (a ++ b)) st else .bad
  | .lst a, .lst b => if a.length + b.length ≤ LIM then .ok (.lst (a ++ b)) st else .bad
  | x, y => ownOp tab x y st
theorem od_add (tk : Takes G.X G.E) (hr : Room k G.X.A) (ht : TabOk G k (PySem.dunder (Operator.Add).info.2) 2 tab) : OpD G (binaryOp .Add) (opAdd tab) := by
  intro σ W st x y dx dy Q wk rx ry p
  unfold opAdd at p
  split at p
  · rename_i i j
    cases rx; cases ry
    exact qo_of op_add ⟨i, j, rfl, rfl, p _ W (Ext.refl W) wk (.int _)⟩
  · rename_i a b
    cases rx; cases ry
    by_cases hl : a.length + b.length ≤ LIM
    · rw [if_pos hl] at p
      exact qo_of op_add_str ⟨a, b, rfl, rfl, lim_le hl, p _ W (Ext.refl W) wk (.str _)⟩
    · rw [if_neg hl] at p; exact p.elim
  · rename_i a b
    by_cases hl : a.length + b.length ≤ LIM
    · rw [if_pos hl] at p
      obtain ⟨p1, xs, rfl, _, s1, r1⟩ := rx.atL
      obtain ⟨p2, ys, rfl, _, s2, r2⟩ := ry.atL
      refine qo_of op_cat ⟨p1, p2, xs, ys, rfl, rfl, s1, s2, lim_le (by rw [r1.length, r2.length]; exact hl), fun q hq => ?_⟩
      have e := W.lay_ext (o := .lst (xs ++ ys)) hq
      exact p (.ref q) (W.lay q (.lst (xs ++ ys)) hq) e (wk.lay hq) (.lst (W.lay_nav hq) upd_same ((r1.append r2).mono e))
    · rw [if_neg hl] at p; exact p.elim
  · exact own_bin tk hr ht wk rx ry p
def opSub (tab : Tab) : D → D → M D := fun x y st => match x, y with
  | .int i, .int j => .ok (.int (i - j)) st
  | x, y => ownOp tab x y st
theorem od_sub (tk : Takes G.X G.E) (hr : Room k G.X.A) (ht : TabOk G k (PySem.dunder (Operator.Sub).info.2) 2 tab) : OpD G (binaryOp .Sub) (opSub tab) := by
  intro σ W st x y dx dy Q wk rx ry p
  unfold opSub at p
  split at p
  · rename_i i j
    cases rx; cases ry
    exact qo_of op_sub ⟨i, j, rfl, rfl, p _ W (Ext.refl W) wk (.int _)⟩
  · exact own_bin tk hr ht wk rx ry p
def opMul (tab : Tab) : D → D → M D := fun x y st => match x, y with
  | .int i, .int j => if (-(2 ^ 64) < i ∧ i < 2 ^ 64) ∨ (-(2 ^ 64) < j ∧ j < 2 ^ 64) then .ok (.int (i * j)) st else .bad
  | .str a, .int j => if 0 ≤ j ∧ j ≤ 1 then .ok (.str (if j = 1 then a else ⟨#[]⟩)) st else .bad
  | x, y => ownOp tab x y st
end
end Mi

/-! MiOps: more operators, comparisons, truth, calls of built-ins, subscripts, methods, walks. -/
namespace Mi
open PySem PySem.Spec PyProof.Rows L2
section
variable {G : Gx} {k : Nat} {tab : Tab}
theorem od_mul (tk : Takes G.X G.E) (hr : Room k G.X.A) (ht : TabOk G k (PySem.dunder (Operator.Mult).info.2) 2 tab) : OpD G (binaryOp .Mult) (opMul tab) := by
  intro σ W st x y dx dy Q wk rx ry p
  unfold opMul at p
  split at p
  · rename_i i j
    cases rx; cases ry
    by_cases hc : (-(2 ^ 64) < i ∧ i < 2 ^ 64) ∨ (-(2 ^ 64) < j ∧ j < 2 ^ 64)
    · rw [if_pos hc] at p
      exact qo_of op_mul ⟨i, j, rfl, rfl, hc, p _ W (Ext.refl W) wk (.int _)⟩
    · rw [if_neg hc] at p; exact p.elim
  · rename_i a j
    cases rx; cases ry
    by_cases hj : 0 ≤ j ∧ j ≤ 1
    · rw [if_pos hj] at p
      intro pins s v u I rv ru
      obtain ⟨t, rfl⟩ := rv
      obtain ⟨t2, rfl⟩ := ru
      have p' := p _ W (Ext.refl W) wk (.str _)
      refine PySem.P.mul_str (by
          rw [decide_eq_false (by omega), decide_eq_false (by omega)]; rfl) (fun h1 h2 => ?_) (fun h1 h2 => ?_) ?_
      · have : j = 1 := by omega
        subst this
        cases h2
      · have : j = 1 := by omega
        subst this
        cases h2
      · by_cases h1 : j = 1
        · rw [if_pos h1] at p'
          rw [if_neg (by omega), if_pos (by rw [h1]; rfl)]
          exact ⟨.str a, W.h, I, ⟨_, rfl⟩, p'⟩
        · rw [if_neg h1] at p'
          rw [if_pos (by omega)]
          exact ⟨by decide, .str ⟨#[]⟩, W.h, I.tok _, ⟨_, rfl⟩, p'⟩
    · rw [if_neg hj] at p; exact p.elim
  · exact own_bin tk hr ht wk rx ry p
def opMod : D → D → M D := fun x y st => match x, y with
  | .int i, .int j => if j ≠ 0 then .ok (.int (i.fmod j)) st else .bad
  | _, _ => .bad
theorem od_mod : OpD G (binaryOp .Mod) opMod := by
  intro σ W st x y dx dy Q wk rx ry p
  unfold opMod at p
  split at p
  · rename_i i j
    cases rx; cases ry
    by_cases hc : j ≠ 0
    · rw [if_pos hc] at p
      exact qo_of op_modN ⟨i, j, rfl, rfl, hc, p _ W (Ext.refl W) wk (.int _)⟩
    · rw [if_neg hc] at p; exact p.elim
  · exact p.elim
def opFdv : D → D → M D := fun x y st => match x, y with
  | .int i, .int j => if j ≠ 0 ∧ j.natAbs < 1073741824 then .ok (.int (i.fdiv j)) st else .bad
  | _, _ => .bad
theorem od_fdv : OpD G (binaryOp .FloorDiv) opFdv := by
  intro σ W st x y dx dy Q wk rx ry p
  unfold opFdv at p
  split at p
  · rename_i i j
    cases rx; cases ry
    by_cases hc : j ≠ 0 ∧ j.natAbs < 1073741824
    · rw [if_pos hc] at p
      exact qo_of op_fdivN ⟨i, j, rfl, rfl, hc, p _ W (Ext.refl W) wk (.int _)⟩
    · rw [if_neg hc] at p; exact p.elim
  · exact p.elim
def opPow : D → D → M D := fun x y st => match x, y with
  | .int i, .int j => if 0 ≤ j ∧ j ≤ 1000000 ∧ i.natAbs < 2 ^ 64 then .ok (.int (i ^ j.toNat)) st else .bad
  | _, _ => .bad
theorem od_pow : OpD G (binaryOp .Pow) opPow := by
  intro σ W st x y dx dy Q wk rx ry p
  unfold opPow at p
  split at p
  · rename_i i j
    cases rx; cases ry
    by_cases hc : 0 ≤ j ∧ j ≤ 1000000 ∧ i.natAbs < 2 ^ 64
    · rw [if_pos hc] at p
      exact qo_of op_pow ⟨i, j, rfl, rfl, hc, p _ W (Ext.refl W) wk (.int _)⟩
    · rw [if_neg hc] at p; exact p.elim
  · exact p.elim
/-- an operator that only own classes have here -/
theorem od_own {op : Operator} (tk : Takes G.X G.E) (hr : Room k G.X.A) (ht : TabOk G k (PySem.dunder op.info.2) 2 tab) : OpD G (binaryOp op) (ownOp tab) := fun σ W st x y dx dy Q wk rx ry p => own_bin tk hr ht wk rx ry p
def unNeg : D → M D := fun x st => match x with
  | .int i => .ok (.int (-i)) st
  | _ => .bad
theorem ud_neg : UnD G (unaryOp .USub) unNeg := by
  intro σ W st x dx Q wk rx p
  unfold unNeg at p
  split at p
  · rename_i i
    cases rx
    exact qu_of un_neg ⟨i, rfl, p _ W (Ext.refl W) wk (.int _)⟩
  · exact p.elim
def ownUn (tab : Tab) (x : D) : M D := fun st => match clsOf x st with
  | some (c, _) => (match tab.lookup c with
    | some g => g [x] st
    | none => .bad)
  | none => .bad
theorem ud_inv (tk : Takes G.X G.E) (hr : Room k G.X.A) (ht : TabOk G k "__invert__" 1 tab) : UnD G (unaryOp .Invert) (ownUn tab) := by
  intro σ W st x dx Q wk rx p
  unfold ownUn at p
  cases h1 : clsOf dx st with
  | none => rw [h1] at p; exact p.elim
  | some cf =>
    obtain ⟨c, fs⟩ := cf
    rw [h1] at p
    dsimp only at p
    cases hg : tab.lookup c with
    | none => rw [hg] at p; exact p.elim
    | some g =>
      rw [hg] at p
      obtain ⟨f, D1, f1, f2, f3⟩ := ht c g hg
      obtain ⟨a, d1, ws, rfl, ha, _⟩ := clsOf_at wk rx h1
      intro pins s v I rv
      cases rv
      obtain ⟨ox, od, J⟩ := inst_at I ha
      obtain ⟨m, hF⟩ := I.fr
      exact PySem.W.ksp_inv hF I.ok.mod.kin J f1 f2 (D1.run tk hr rfl wk (.cons rx .nil) rfl p I (.cons rfl .nil))

/-! ### comparisons of numbers and texts -/
def cmpI (f : Int → Int → Bool) : D → D → M D := fun x y st => match x, y with
  | .int i, .int j => .ok (.bl (f i j)) st
  | _, _ => .bad
theorem cd_int {op : CmpOp} {f : Int → Int → Bool} (h : OpR G.X (compareOp op) (rI0 fun i j => .bl (f i j))) : OpD G (compareOp op) (cmpI f) := by
  intro σ W st x y dx dy Q wk rx ry p
  unfold cmpI at p
  split at p
  · rename_i i j
    cases rx; cases ry
    exact qo_of h ⟨i, j, rfl, rfl, p _ W (Ext.refl W) wk (.bl _)⟩
  · exact p.elim
theorem cd_lt : OpD G (compareOp .Lt) (cmpI fun i j => decide (i < j)) := cd_int op_lt
theorem cd_gt : OpD G (compareOp .Gt) (cmpI fun i j => decide (j < i)) := cd_int op_gt
theorem cd_ge : OpD G (compareOp .GtE) (cmpI fun i j => decide (j ≤ i)) := cd_int op_ge
def ownCmp (tab : Tab) (x y : D) : M D := fun st => match clsOf x st with
  | some (c, _) => (match tab.lookup c with
    | some g => g [x, y] st
    | none => .bad)
  | none => .bad
/-- a value's type, as the machine looks -/
def TyV (X : Cx) (x : V) (H : Hp) (t : Value) : Prop := ∀ pins σ s u, Inv X pins σ H s → RelV x u → PySem.W.Looks (model X.prog X.w) s.heap (typeOf u) t
theorem own_cmp {op : CmpOp} {σ : L2.St} {W : Wd} {st : Sto} {x y : V} {dx dy : D} {Q : VK} (tk : Takes G.X G.E) (hr : Room k G.X.A) (ht : TabOk G k (cmpInfo op).2.1 2 tab) (hop : compareOp op = richCompare op) (wk : WOk G.X.K G.ca W st) (rx : Rep G.X.K G.ca W x dx) (ry : Rep G.X.K G.ca W y dy)
    (hty : ∀ c fs, clsOf dx st = some (c, fs) → ∃ tb, TyV G.X y W.h tb ∧ PySem.W.notFirst G.X.K (G.ca c) tb = true) (p : Post G W σ (ownCmp tab dx dy st) Q) : QO G (compareOp op) σ x y W.h Q := by
  unfold ownCmp at p
  cases h1 : clsOf dx st with
  | none => rw [h1] at p; exact p.elim
  | some cf =>
    obtain ⟨c, fs⟩ := cf
    obtain ⟨tb, hty, hnf⟩ := hty c fs h1
    rw [h1] at p
    dsimp only at p
    cases hg : tab.lookup c with
    | none => rw [hg] at p; exact p.elim
    | some g =>
      rw [hg] at p
      obtain ⟨f, D1, f1, f2, f3⟩ := ht c g hg
      obtain ⟨a, d1, ws, rfl, ha, _⟩ := clsOf_at wk rx h1
      intro pins s v u I rv ru
      cases rv
      obtain ⟨ox, od, J⟩ := inst_at I ha
      obtain ⟨m, hF⟩ := I.fr
      rw [hop]
      refine PySem.W.cmp_K hr.units0 hF I.ok.mod.kin J (hty pins σ s u I ru) hnf f1 f2 ?_
      exact thn (D1.run tk hr rfl wk (.cons rx (.cons ry .nil)) rfl p I (.cons rfl (.cons ru .nil))) fun _ _ z => cmpBack z
end
end Mi

/-! MiOps2: types of values, isinstance, ==, in, is, truth. -/
namespace Mi
open PySem PySem.Spec PyProof.Rows L2

/-! ### what type a value is of -/
inductive Tag where
  | non | bl | int | str | lst | tup | dic | own (c : Nat)
  deriving DecidableEq
def tagV (ca : Nat → Addr) : Tag → Value
  | .non => .type "NoneType"
  | .bl => .type "bool"
  | .int => .type "int"
  | .str => .type "str"
  | .lst => .type "list"
  | .tup => .type "tuple"
  | .dic => .type "dict"
  | .own c => .ref (ca c)
def tagOf (d : D) (st : Sto) : Option Tag := match d with
  | .non => some .non
  | .bl _ => some .bl
  | .int _ => some .int
  | .str _ => some .str
  | .lst _ => some .lst
  | .fix _ => some .lst
  | .tup _ => some .tup
  | .ins c _ => some (.own c)
  | .cell n => (match st[n]? with
    | some (.lst _) => some .lst
    | some (.ins c _) => some (.own c)
    | some (.dk _) => some .dic
    | none => none)
  | _ => none
/-- an own class whose instances are asked for their class -/
structure ClsX (K : PySem.W.Frag) (C : Addr) : Prop where
  cl : Cls K C
  ha : PySem.W.findIn K (.ref C) "__class__" = some (some (.builtin "object.__class__"))
  hn : PySem.W.specialIn K (.builtin "object.__class__") "__get__" = some (some (.builtin "getset_descriptor.__get__"))
  htk : PySem.W.takesIn K (.builtin "object.__class__") = some true
  hm : PySem.W.mroIn K C (.type "object") = some true
theorem tag_tyx {K : PySem.W.Frag} {ca : Nat → Addr} {W : Wd} {st : Sto} {x : V} {d : D} {t : Tag} (wk : WOk K ca W st) (r : Rep K ca W x d) (h : tagOf d st = some t) (hc : ∀ c, t = .own c → ClsX K (ca c)) : TyX K W.h x (tagV ca t) := by
  cases r with
  | non => cases h; exact .base .non
  | bl b => cases h; exact .base (.bl b)
  | int i => cases h; exact .base (.int i)
  | str z => cases h; exact .base (.str z)
  | lst n hh rr => cases h; exact .base (.lst hh)
  | fix n hh rr =>
    cases h
    rcases hh with hh | ⟨o, hh⟩
    · exact .base (.lst hh)
    · exact .base (.frz hh)
  | fixK hh rr =>
    cases h
    rcases hh with hh | ⟨o, its, n, h1, h2, _⟩
    · exact (rd_none hh).elim
    · exact .kList h1 h2
  | tup n hh rr =>
    cases h
    rcases hh with hh | ⟨o, hh⟩
    · exact .base (.tup hh)
    · exact .fTuple hh
  | tupK hh rr =>
    cases h
    rcases hh with hh | ⟨o, its, n, h1, h2, _⟩
    · exact (rd_none hh).elim
    · exact .kTuple h1 h2
  | ins n hh rf =>
    cases h
    have z := hc _ rfl
    exact .base (.ins hh z.cl z.ha z.hn z.htk z.hm)
  | cell hg =>
    rename_i n p
    unfold tagOf at h
    dsimp only at h
    cases e : st[n]? with
    | none => rw [e] at h; cases h
    | some cl =>
      rw [e] at h
      have co := wk.cell n p cl hg e
      cases cl with
      | lst ds => cases h; obtain ⟨xs, h1, _⟩ := co; exact .base (.lst h1)
      | ins c fs =>
        cases h
        obtain ⟨dx, ws, h1, _⟩ := co
        have z := hc _ rfl
        exact .base (.ins h1 z.cl z.ha z.hn z.htk z.hm)
      | dk kvs => cases h; obtain ⟨ws, h1, _⟩ := co; exact .base (.dK h1)
  | cls c => cases h
  | ty n => cases h
theorem tag_ty {G : Gx} {W : Wd} {st : Sto} {x : V} {d : D} {t : Tag} (wk : WOk G.X.K G.ca W st) (r : Rep G.X.K G.ca W x d) (h : tagOf d st = some t) (hc : ∀ c, t = .own c → ClsX G.X.K (G.ca c)) : TyV G.X x W.h (tagV G.ca t) := by
  intro pins σ s u I ru
  obtain ⟨P, Z, hp, _⟩ := kit_of I ru (tag_tyx wk r h hc)
  exact Z.ty _ _ I.kIn hp

section
variable {G : Gx} {k : Nat} {tab : Tab} {e e2 : Expr} {ma : EM} {p pos : Pos}
/-! ### isinstance(x, C) -/
def eIsi (f : Tag → Option Bool) (a : EM) : EM := fun env st => (a env st).bind fun x s => match tagOf x s with
  | some t => (match f t with
    | some b => .ok (.bl b) s
    | none => .bad)
  | none => .bad
theorem re_isi {v2 : V} {cv : Value} {f : Tag → Option Bool} (hK : ∀ c, (f (.own c)).isSome = true → ClsX G.X.K (G.ca c)) (hsub : ∀ t b, f t = some b → PySem.W.kitOne G.X.K (tagV G.ca t) cv = some b) (hv2 : ∀ u, RelV v2 u → u = cv)
    (ha : RE G e ma) (he2 : PE G.X e2 (tC v2)) (hg : Gl G.X "isinstance") (hm : G.X.mg "isinstance" = none)
    (hs1 : starEach (e :: [e2]) G.X.env = (false, eval e G.X.env) :: starEach [e2] G.X.env := by rfl) (hs2 : starEach (e2 :: []) G.X.env = (false, eval e2 G.X.env) :: starEach [] G.X.env := by rfl) (hpl : (backTo pos (starEach [e2] G.X.env)).any (·.1) = false := by rfl) :
    RE G (.Call (.Name "isinstance" p) [e, e2] [] pos) (eIsi f ma) := by
  intro σ W env st Q w re hp
  have hcr : CallR G.X (.builtin "isinstance") (fun xs H Q => ∃ x t b, xs = [x, v2] ∧ TyX G.X.K H x t ∧ PySem.W.kitOne G.X.K t cv = some b ∧ Q (.bl b) H) := by
    intro pins s σ H xs us Q I r hh
    obtain ⟨x, t, b, rfl, ty, hk, q⟩ := hh
    cases r with
    | cons rx rr =>
      cases rr with
      | cons rt rr =>
        cases rr
        have ec := hv2 _ rt
        subst ec
        obtain ⟨P, Z, hP, hne⟩ := kit_of I rx ty
        exact PySem.W.kia_one Z I.kIn hP hk hne fun tk => ⟨.bl b, H, I.kept (t' := tk) fun _ _ z => z, rfl, q⟩
  refine qe_of (pe_callB hcr hg hm (by decide +kernel) (pa_cons pe_q (pa_cons he2 pa_nil hs2) hs1) (by decide) (by decide) hs1 hpl) ?_
  refine ha σ W env st _ w re (bindEE hp fun d s1 x W1 e1 w1 r1 p1 => ?_)
  cases ht : tagOf d s1 with
  | none => rw [ht] at p1; exact p1.elim
  | some t =>
    rw [ht] at p1
    dsimp only at p1
    cases hf : f t with
    | none => rw [hf] at p1; exact p1.elim
    | some b =>
      rw [hf] at p1
      refine ⟨x, _, b, rfl, tag_tyx w1 r1 ht (fun c hc => hK c (by rw [← hc, hf]; rfl)), hsub t b hf, p1 _ W1 (Ext.refl W1) w1 (.bl b)⟩

/-! ### == -/
mutual
def D.pd : D → Option PyData
  | .non => some .none
  | .bl b => some (.bool b)
  | .int i => some (.int i)
  | .str x => some (.str x)
  | .lst ds => (D.pds ds).map .list
  | .fix ds => (D.pds ds).map .list
  | .tup ds => (D.pds ds).map .tuple
  | _ => none
def D.pds : List D → Option (List PyData)
  | [] => some []
  | d :: ds => (D.pd d).bind fun a => (D.pds ds).map fun r => a :: r
end
end
end Mi

/-! MiOps3: ==, in, is, truth, len and other built-ins. -/
namespace Mi
open PySem PySem.Spec PyProof.Rows L2
section
variable {K : PySem.W.Frag} {ca : Nat → Addr} {W : Wd}
mutual
theorem Rep.dp : ∀ {v : V} {d : D} {q : PyData}, Rep K ca W v d → D.pd d = some q → Dp K W.h v q
  | _, _, _, .non, h => by cases h; exact .non
  | _, _, _, .bl b, h => by cases h; exact .bl b
  | _, _, _, .int i, h => by cases h; exact .int i
  | _, _, _, .str x, h => by cases h; exact .str x
  | _, _, _, .lst (ds := ds) n hh r, h => by
    unfold D.pd at h
    cases e : D.pds ds with
    | none => rw [e] at h; cases h
    | some qs => rw [e] at h; cases h; exact .lst (.inl (.inl hh)) (Reps.dp r e)
  | _, _, _, .fix (ds := ds) n hh r, h => by
    unfold D.pd at h
    cases e : D.pds ds with
    | none => rw [e] at h; cases h
    | some qs => rw [e] at h; cases h; exact .lst (.inl hh) (Reps.dp r e)
  | _, _, _, .fixK (ds := ds) hh r, h => by
    unfold D.pd at h
    cases e : D.pds ds with
    | none => rw [e] at h; cases h
    | some qs => rw [e] at h; cases h; exact .lst hh.sq (Reps.dp r e)
  | _, _, _, .tup (ds := ds) n hh r, h => by
    unfold D.pd at h
    cases e : D.pds ds with
    | none => rw [e] at h; cases h
    | some qs => rw [e] at h; cases h; exact .tup (.inl hh) (Reps.dp r e)
  | _, _, _, .tupK (ds := ds) hh r, h => by
    unfold D.pd at h
    cases e : D.pds ds with
    | none => rw [e] at h; cases h
    | some qs => rw [e] at h; cases h; exact .tup hh.sq (Reps.dp r e)
  | _, _, _, .ins n hh r, h => by cases h
  | _, _, _, .cell hh, h => by cases h
  | _, _, _, .cls c, h => by cases h
  | _, _, _, .ty n, h => by cases h
theorem Reps.dp : ∀ {vs : List V} {ds : List D} {qs : List PyData}, Reps K ca W vs ds → D.pds ds = some qs → DpAll K W.h vs qs
  | _, _, _, .nil, h => by cases h; exact .nil
  | _, _, _, .cons (d := d) (ds := ds) r t, h => by
    unfold D.pds at h
    cases e : D.pd d with
    | none => rw [e] at h; cases h
    | some q =>
      rw [e] at h
      cases e2 : D.pds ds with
      | none => rw [e2] at h; cases h
      | some qs => rw [e2] at h; cases h; exact .cons (Rep.dp r e) (Reps.dp t e2)
end
end
/-- as data; a cell's list is looked up -/
def pdT (d : D) (st : Sto) : Option PyData := match d with
  | .cell n => (match st[n]? with
    | some (.lst ds) => (D.pds ds).map .list
    | _ => none)
  | d => D.pd d
theorem pdT_at {K : PySem.W.Frag} {ca : Nat → Addr} {W : Wd} {st : Sto} {x : V} {d : D} {q : PyData} (wk : WOk K ca W st) (r : Rep K ca W x d) (h : pdT d st = some q) : Dp K W.h x q := by
  cases d with
  | cell n =>
    unfold pdT at h
    dsimp only at h
    cases e : st[n]? with
    | none => rw [e] at h; cases h
    | some c =>
      rw [e] at h
      cases c with
      | lst ds =>
        dsimp only at h
        cases e2 : D.pds ds with
        | none => rw [e2] at h; cases h
        | some qs =>
          rw [e2] at h
          cases h
          cases r with
          | cell hg =>
            obtain ⟨xs, h1, h2⟩ := wk.cell n _ _ hg e
            exact .lst (.inl (.inl h1)) (h2.dp e2)
      | ins _ _ => cases h
      | dk _ => cases h
  | _ => exact r.dp h
def eqD (tab : Tab) (nf : Nat → Tag → Bool) : D → D → M D := fun x y st => match x, y with
  | .int i, .int j => .ok (.bl (decide (i = j))) st
  | .str a, .str b => .ok (.bl (decide (a = b))) st
  | .bl a, .bl b => .ok (.bl (decide (a = b))) st
  | x, y => match pdT x st, pdT y st with
    | some a, some b => if SeqAt.shaped a = true ∧ SeqAt.shaped b = true then .ok (.bl (PyData.eqv a b)) st else .bad
    | _, _ => (match clsOf x st, tagOf y st with
      | some (c, _), some t => if nf c t = true then ownCmp tab x y st else .bad
      | _, _ => .bad)
def neD : D → D → M D := fun x y st => match x, y with
  | .int i, .int j => .ok (.bl (!decide (i = j))) st
  | .str a, .str b => .ok (.bl (!decide (a = b))) st
  | .bl a, .bl b => .ok (.bl (!decide (a = b))) st
  | x, y => match pdT x st, pdT y st with
    | some a, some b => if SeqAt.shaped a = true ∧ SeqAt.shaped b = true then .ok (.bl (!PyData.eqv a b)) st else .bad
    | _, _ => .bad
section
variable {G : Gx} {k : Nat} {tab : Tab}
theorem dec_vi (i j : Int) : decide (V.int i = V.int j) = decide (i = j) := by
  by_cases h : i = j
  · subst h; simp
  · rw [decide_eq_false h, decide_eq_false (fun z => h (V.int.inj z))]
theorem dec_vs (i j : Str) : decide (V.str i = V.str j) = decide (i = j) := by
  by_cases h : i = j
  · subst h; simp
  · rw [decide_eq_false h, decide_eq_false (fun z => h (V.str.inj z))]
theorem dec_vb (i j : Bool) : decide (V.bl i = V.bl j) = decide (i = j) := by
  by_cases h : i = j
  · subst h; simp
  · rw [decide_eq_false h, decide_eq_false (fun z => h (V.bl.inj z))]
theorem cd_eq {nf : Nat → Tag → Bool} (tk : Takes G.X G.E) (hr : Room k G.X.A) (ht : TabOk G k "__eq__" 2 tab) (hnf : ∀ c t, nf c t = true → PySem.W.notFirst G.X.K (G.ca c) (tagV G.ca t) = true ∧ ∀ c', t = .own c' → ClsX G.X.K (G.ca c')) : OpD G (compareOp .Eq) (eqD tab nf) := by
  intro σ W st x y dx dy Q wk rx ry p
  unfold eqD at p
  split at p
  · rename_i i j
    cases rx; cases ry
    exact qo_of op_eq ⟨rfl, by rw [dec_vi]; exact p _ W (Ext.refl W) wk (.bl _)⟩
  · rename_i i j
    cases rx; cases ry
    exact qo_of op_eq ⟨rfl, by rw [dec_vs]; exact p _ W (Ext.refl W) wk (.bl _)⟩
  · rename_i i j
    cases rx; cases ry
    exact qo_of op_eq ⟨rfl, by rw [dec_vb]; exact p _ W (Ext.refl W) wk (.bl _)⟩
  · split at p
    · rename_i a b ha hb
      by_cases hs : SeqAt.shaped a = true ∧ SeqAt.shaped b = true
      · rw [if_pos hs] at p
        exact qo_of (op_eqD hr.units) ⟨a, b, pdT_at wk rx ha, pdT_at wk ry hb, hs.1, hs.2, p _ W (Ext.refl W) wk (.bl _)⟩
      · rw [if_neg hs] at p; exact p.elim
    · split at p
      · rename_i c fs t hc htg
        by_cases hn : nf c t = true
        · rw [if_pos hn] at p
          refine own_cmp (op := .Eq) tk hr ht rfl wk rx ry (fun c' fs' e => ?_) p
          rw [hc] at e
          cases e
          exact ⟨_, tag_ty wk ry htg (hnf c t hn).2, (hnf c t hn).1⟩
        · rw [if_neg hn] at p; exact p.elim
      · exact p.elim
theorem cd_ne (hr : Room k G.X.A) : OpD G (compareOp .NotEq) neD := by
  intro σ W st x y dx dy Q wk rx ry p
  unfold neD at p
  split at p
  · rename_i i j
    cases rx; cases ry
    exact qo_of op_ne ⟨rfl, by rw [dec_vi]; exact p _ W (Ext.refl W) wk (.bl _)⟩
  · rename_i i j
    cases rx; cases ry
    exact qo_of op_ne ⟨rfl, by rw [dec_vs]; exact p _ W (Ext.refl W) wk (.bl _)⟩
  · rename_i i j
    cases rx; cases ry
    exact qo_of op_ne ⟨rfl, by rw [dec_vb]; exact p _ W (Ext.refl W) wk (.bl _)⟩
  · split at p
    · rename_i a b ha hb
      by_cases hs : SeqAt.shaped a = true ∧ SeqAt.shaped b = true
      · rw [if_pos hs] at p
        exact qo_of (op_neD hr.units) ⟨a, b, pdT_at wk rx ha, pdT_at wk ry hb, hs.1, hs.2, p _ W (Ext.refl W) wk (.bl _)⟩
      · rw [if_neg hs] at p; exact p.elim
    · exact p.elim
/-- <= : numbers, own classes -/
def leD (tab : Tab) (nf : Nat → Tag → Bool) : D → D → M D := fun x y st => match x, y with
  | .int i, .int j => .ok (.bl (decide (i ≤ j))) st
  | x, y => (match clsOf x st, tagOf y st with
      | some (c, _), some t => if nf c t = true then ownCmp tab x y st else .bad
      | _, _ => .bad)
theorem cd_le {nf : Nat → Tag → Bool} (tk : Takes G.X G.E) (hr : Room k G.X.A) (ht : TabOk G k "__le__" 2 tab) (hnf : ∀ c t, nf c t = true → PySem.W.notFirst G.X.K (G.ca c) (tagV G.ca t) = true ∧ ∀ c', t = .own c' → ClsX G.X.K (G.ca c')) : OpD G (compareOp .LtE) (leD tab nf) := by
  intro σ W st x y dx dy Q wk rx ry p
  unfold leD at p
  split at p
  · rename_i i j
    cases rx; cases ry
    exact qo_of op_le ⟨i, j, rfl, rfl, p _ W (Ext.refl W) wk (.bl _)⟩
  · split at p
    · rename_i c fs t hc htg
      by_cases hn : nf c t = true
      · rw [if_pos hn] at p
        refine own_cmp (op := .LtE) tk hr ht rfl wk rx ry (fun c' fs' e => ?_) p
        rw [hc] at e
        cases e
        exact ⟨_, tag_ty wk ry htg (hnf c t hn).2, (hnf c t hn).1⟩
      · rw [if_neg hn] at p; exact p.elim
    · exact p.elim

/-! ### in, not in -/
/-- y stands in x somewhere -/
def subS (y x : Str) : Bool := !(Builtin.Str.occurrences x y 0 x.length 1).isEmpty
def inD (tab : Tab) (t : D → M Bool) (neg : Bool) : D → D → M D := fun x y st => match x, y with
  | .str a, .str b => .ok (.bl (if neg then !subS a b else subS a b)) st
  | x, y => (match clsOf y st with
    | some (c, _) => (match tab.lookup c with
      | some g => (g [y, x] st).bind fun r s => (t r s).bind fun b s2 => .ok (.bl (if neg then !b else b)) s2
      | none => .bad)
    | none => .bad)
theorem cd_in {t : D → M Bool} (tk : Takes G.X G.E) (hr : Room k G.X.A) (ht : TabOk G k "__contains__" 2 tab) (htr : TrD G t) : OpD G (compareOp .In) (inD tab t false) := by
  intro σ W st x y dx dy Q wk rx ry p
  unfold inD at p
  split at p
  · rename_i a b
    cases rx; cases ry
    exact qo_of op_in_str ⟨a, b, rfl, rfl, p _ W (Ext.refl W) wk (.bl _)⟩
  · split at p
    · rename_i c fs hc
      cases hg : tab.lookup c with
      | none => rw [hg] at p; exact p.elim
      | some g =>
        rw [hg] at p
        obtain ⟨f, D1, f1, f2, f3⟩ := ht c g hg
        obtain ⟨a, d1, ws, rfl, ha, _⟩ := clsOf_at wk ry hc
        intro pins s v u I rv ru
        cases ru
        obtain ⟨ox, od, J⟩ := inst_at I ha
        obtain ⟨m, hF⟩ := I.fr
        refine PySem.W.in_K hF I.ok.mod.kin J f1 f2 ?_
        have p' : Post G W σ (g [dy, dx] st) (fun r H => QTr G σ r H fun b H2 => Q (.bl b) H2) := bindEE p fun d s1 r W1 e1 w1 r1 p1 => htr σ W1 s1 r d _ w1 r1 (bindTE p1 fun b s2 W2 e2 w2 p2 => p2 _ W2 (Ext.refl W2) w2 (.bl _))
        refine thn (D1.run tk hr rfl wk (.cons ry (.cons rx .nil)) rfl p' I (.cons rfl (.cons rv .nil))) fun r s1 hz => ?_
        obtain ⟨z, H1, I1, rz, q1⟩ := hz
        refine thn (q1 pins s1 r I1 rz) fun b s2 hb => ?_
        obtain ⟨H2, I2, q2⟩ := hb
        exact ⟨.bl b, H2, I2, rfl, q2⟩
    · exact p.elim
theorem cd_nin {t : D → M Bool} (tk : Takes G.X G.E) (hr : Room k G.X.A) (ht : TabOk G k "__contains__" 2 tab) (htr : TrD G t) : OpD G (compareOp .NotIn) (inD tab t true) := by
  intro σ W st x y dx dy Q wk rx ry p
  unfold inD at p
  split at p
  · rename_i a b
    cases rx; cases ry
    exact qo_of op_notin_str ⟨a, b, rfl, rfl, p _ W (Ext.refl W) wk (.bl _)⟩
  · split at p
    · rename_i c fs hc
      cases hg : tab.lookup c with
      | none => rw [hg] at p; exact p.elim
      | some g =>
        rw [hg] at p
        obtain ⟨f, D1, f1, f2, f3⟩ := ht c g hg
        obtain ⟨a, d1, ws, rfl, ha, _⟩ := clsOf_at wk ry hc
        intro pins s v u I rv ru
        cases ru
        obtain ⟨ox, od, J⟩ := inst_at I ha
        obtain ⟨m, hF⟩ := I.fr
        refine PySem.W.notIn_K hF I.ok.mod.kin J f1 f2 ?_
        have p' : Post G W σ (g [dy, dx] st) (fun r H => QTr G σ r H fun b H2 => Q (.bl (!b)) H2) := bindEE p fun d s1 r W1 e1 w1 r1 p1 => htr σ W1 s1 r d _ w1 r1 (bindTE p1 fun b s2 W2 e2 w2 p2 => p2 _ W2 (Ext.refl W2) w2 (.bl _))
        refine thn (D1.run tk hr rfl wk (.cons ry (.cons rx .nil)) rfl p' I (.cons rfl (.cons rv .nil))) fun r s1 hz => ?_
        obtain ⟨z, H1, I1, rz, q1⟩ := hz
        refine thn (q1 pins s1 r I1 rz) fun b s2 hb => ?_
        obtain ⟨H2, I2, q2⟩ := hb
        exact ⟨.bl (!b), H2, I2, rfl, q2⟩
    · exact p.elim

/-! ### is -/
def isD (neg : Bool) : D → D → M D := fun x y st => match x, y with
  | .bl a, .bl b => .ok (.bl (if neg then !decide (a = b) else decide (a = b))) st
  | .int _, .bl _ => .ok (.bl neg) st
  | .str _, .bl _ => .ok (.bl neg) st
  | .non, .bl _ => .ok (.bl neg) st
  | .non, .non => .ok (.bl (!neg)) st
  | .bl _, .non => .ok (.bl neg) st
  | .int _, .non => .ok (.bl neg) st
  | .str _, .non => .ok (.bl neg) st
  | .lst _, .non => .ok (.bl neg) st
  | .tup _, .non => .ok (.bl neg) st
  | .ins _ _, .non => .ok (.bl neg) st
  | .cell _, .non => .ok (.bl neg) st
  | _, _ => .bad
theorem cd_is : OpD G (compareOp .Is) (isD false) := by
  intro σ W st x y dx dy Q wk rx ry p
  unfold isD at p
  split at p
  · rename_i a b
    cases rx; cases ry
    exact qo_of op_isBl ⟨a, b, rfl, rfl, p _ W (Ext.refl W) wk (.bl _)⟩
  · cases rx; cases ry
    intro pins s v u I rv ru
    obtain ⟨t, rfl⟩ := rv
    cases ru
    exact wpAny_is_other rfl (fun z => by cases z) ⟨.bl false, W.h, I, rfl, p _ W (Ext.refl W) wk (.bl _)⟩
  · cases rx; cases ry
    intro pins s v u I rv ru
    obtain ⟨t, rfl⟩ := rv
    cases ru
    exact wpAny_is_other rfl (fun z => by cases z) ⟨.bl false, W.h, I, rfl, p _ W (Ext.refl W) wk (.bl _)⟩
  · cases rx; cases ry
    intro pins s v u I rv ru
    cases rv
    cases ru
    exact wpAny_is_other rfl (fun z => by cases z) ⟨.bl false, W.h, I, rfl, p _ W (Ext.refl W) wk (.bl _)⟩
  · cases rx; cases ry; exact qo_of op_isN ⟨rfl, p _ W (Ext.refl W) wk (.bl _)⟩
  · cases rx; cases ry; exact qo_of op_isN ⟨rfl, p _ W (Ext.refl W) wk (.bl _)⟩
  · cases rx; cases ry; exact qo_of op_isN ⟨rfl, p _ W (Ext.refl W) wk (.bl _)⟩
  · cases rx; cases ry; exact qo_of op_isN ⟨rfl, p _ W (Ext.refl W) wk (.bl _)⟩
  · cases rx; cases ry; exact qo_of op_isN ⟨rfl, p _ W (Ext.refl W) wk (.bl _)⟩
  · cases rx <;> (cases ry; exact qo_of op_isN ⟨rfl, p _ W (Ext.refl W) wk (.bl _)⟩)
  · cases rx; cases ry; exact qo_of op_isN ⟨rfl, p _ W (Ext.refl W) wk (.bl _)⟩
  · cases rx; cases ry; exact qo_of op_isN ⟨rfl, p _ W (Ext.refl W) wk (.bl _)⟩
  · exact p.elim
theorem cd_isnot : OpD G (compareOp .IsNot) (isD true) := by
  intro σ W st x y dx dy Q wk rx ry p
  unfold isD at p
  split at p
  · rename_i a b
    cases rx; cases ry
    exact qo_of op_notBl ⟨a, b, rfl, rfl, p _ W (Ext.refl W) wk (.bl _)⟩
  · cases rx; cases ry
    intro pins s v u I rv ru
    obtain ⟨t, rfl⟩ := rv
    cases ru
    exact wpAny_isNot_other rfl (fun z => by cases z) ⟨.bl true, W.h, I, rfl, p _ W (Ext.refl W) wk (.bl _)⟩
  · cases rx; cases ry
    intro pins s v u I rv ru
    obtain ⟨t, rfl⟩ := rv
    cases ru
    exact wpAny_isNot_other rfl (fun z => by cases z) ⟨.bl true, W.h, I, rfl, p _ W (Ext.refl W) wk (.bl _)⟩
  · cases rx; cases ry
    intro pins s v u I rv ru
    cases rv
    cases ru
    exact wpAny_isNot_other rfl (fun z => by cases z) ⟨.bl true, W.h, I, rfl, p _ W (Ext.refl W) wk (.bl _)⟩
  · cases rx; cases ry; exact qo_of op_notN ⟨rfl, p _ W (Ext.refl W) wk (.bl _)⟩
  · cases rx; cases ry; exact qo_of op_notN ⟨rfl, p _ W (Ext.refl W) wk (.bl _)⟩
  · cases rx; cases ry; exact qo_of op_notN ⟨rfl, p _ W (Ext.refl W) wk (.bl _)⟩
  · cases rx; cases ry; exact qo_of op_notN ⟨rfl, p _ W (Ext.refl W) wk (.bl _)⟩
  · cases rx; cases ry; exact qo_of op_notN ⟨rfl, p _ W (Ext.refl W) wk (.bl _)⟩
  · cases rx <;> (cases ry; exact qo_of op_notN ⟨rfl, p _ W (Ext.refl W) wk (.bl _)⟩)
  · cases rx; cases ry; exact qo_of op_notN ⟨rfl, p _ W (Ext.refl W) wk (.bl _)⟩
  · cases rx; cases ry; exact qo_of op_notN ⟨rfl, p _ W (Ext.refl W) wk (.bl _)⟩
  · exact p.elim
end
end Mi

/-! MiOps4: truth by __len__, len, abs, int, all, any. -/
namespace PySem.W
open PySem PySem.Spec PySem.Calls PyProof.Rows
section
variable {prog : Program} {w : World} {A : Around} {E : Value → Shared → Prop} {s : Shared} {K : Frag} {x C L f : Addr} {h₀ : Heap} {m : Str → Option Value} {ox : Obj} {od : Option Obj}
/-- the truth of an instance that has a length and no __bool__ -/
theorem mi_truthy_len {Q : Bool → Shared → Prop} (F : Fr h₀ L s.heap m) (X₀ : K.In h₀) (I : InstAt s.heap x ox C od) (hb : findIn K (.ref C) "__bool__" = some none) (hs : findIn K (.ref C) "__len__" = some (some (.ref f))) (hf : isFn K (.ref f) = true)
    (h : wpAny (model prog w) A.in1 (call (.ref f) [.ref x]) (fun v s' => ∃ n t, v = .int n t ∧ 0 ≤ n ∧ n < 2 ^ 63 ∧ Q (n != 0) { s' with toks := s'.toks + 1 }) E s) : wpAny (model prog w) A (truthy (.ref x)) Q E s := by
  have X := X₀.keeps F.keep
  have key : wpAny (model prog w) A (runValue (.builtin "len" ⟨[.ref x], []⟩)) (fun r s' => ∃ n t, r = .int n t ∧ Q (n != 0) s') E s := by
    refine wpAny_runValue (codeAny_builtin entry_len ?_)
    rw [Around.under_plainId plain_len _]
    unfold Builtin.«len»
    refine wpAny_bind (m := oneArg "len" _) (wpAny_pure ?_)
    refine wpAny_bind (m := callSpecial? (.ref x) (Str.ofString "__len__")) (special_fn X I hs (beq_iff_eq.mp hf) (wpAny_mono h (fun r s' hr => ?_) fun _ _ y => y))
    obtain ⟨n, u, rfl, h0, h1, hq⟩ := hr
    refine wpAny_bind (wpAny_holding (wpAny_pure ?_))
    refine wpAny_bind (wpAny_letGo ?_)
    show wpAny _ _ (if n < 0 then _ else _) _ _ _
    rw [if_neg (by omega)]
    show wpAny _ _ (if n ≥ 2 ^ 63 then _ else _) _ _ _
    rw [if_neg (by omega)]
    exact wpAny_bind (wpAny_mkInt (wpAny_pure ⟨n, _, rfl, hq⟩))
  unfold truthy
  refine wpAny_bind (m := callSpecial? (.ref x) (Str.ofString "__bool__")) (wpAny_bind (wpAny_bind (I.type.here ((looks_findIn X hb).here (wpAny_pure ?_)))))
  refine wpAny_bind (wpAny_bind (I.type.here ((looks_findIn X hs).here ?_)))
  refine wpAny_bind (wpAny_mono key (fun r s' hr => ?_) fun _ _ e => e)
  obtain ⟨n, t, rfl, hq⟩ := hr
  exact wpAny_pure hq
end
end PySem.W
namespace Mi
open PySem PySem.Spec PyProof.Rows L2
section
variable {G : Gx} {k : Nat} {tab : Tab}
/-- the length that an own __len__ tells -/
def ownLen (tab : Tab) (x : D) : M Int := fun st => match clsOf x st with
  | some (c, _) => (match tab.lookup c with
    | some g => (match g [x] st with
      | .ok (.int n) s => if 0 ≤ n ∧ n < 2 ^ 63 then .ok n s else .bad
      | _ => .bad)
    | none => .bad)
  | none => .bad
def truD (tab : Tab) : D → M Bool := fun x st => match x with
  | .non => .ok false st
  | .bl b => .ok b st
  | .int i => .ok (i != 0) st
  | .str y => if y.length ≤ LIM then .ok ((y.length : Int) != 0) st else .bad
  | .tup xs => .ok (!xs.isEmpty) st
  | x => (match seqOf x st with
    | some xs => .ok (!xs.isEmpty) st
    | none => (ownLen tab x st).bind fun n s => .ok (n != 0) s)
theorem isEmpty_reps {K : PySem.W.Frag} {ca : Nat → Addr} {W : Wd} {xs : List V} {ds : List D} (r : Reps K ca W xs ds) : xs.isEmpty = ds.isEmpty := by
  cases r <;> rfl
/-- the own __len__ run, one step deeper -/
theorem ownLen_run {σ : L2.St} {W : Wd} {st : Sto} {x : V} {d : D} {n : Int} {s1 : Sto} {name : Str} (tk : Takes G.X G.E) (hr : Room (k + 1) G.X.A) (ht : TabOk G k name 1 tab) (wk : WOk G.X.K G.ca W st) (rx : Rep G.X.K G.ca W x d) (h : ownLen tab d st = .ok n s1) :
    ∃ (c : Nat) (a dx : Addr) (ws : List (Str × V)) (f : Addr), x = .ref a ∧ W.h a = some (.ins (G.ca c) dx ws) ∧ PySem.W.findIn G.X.K (.ref (G.ca c)) name = some (some (.ref f)) ∧ PySem.W.isFn G.X.K (.ref f) = true ∧ (tab.lookup c).isSome = true ∧ (0 ≤ n ∧ n < 2 ^ 63) ∧
      ∀ (pins : List (Addr × Obj)) (s : Shared), Inv G.X pins σ W.h s → wpAny (model G.X.prog G.X.w) G.X.A.in1 (call (.ref f) [.ref a]) (EP G.X pins σ fun v H => v = .int n ∧ ∃ W', Ext W W' ∧ WOk G.X.K G.ca W' s1 ∧ H = W'.h) G.X.xe s := by
  unfold ownLen at h
  cases h1 : clsOf d st with
  | none => rw [h1] at h; cases h
  | some cf =>
    obtain ⟨c, fs⟩ := cf
    rw [h1] at h
    dsimp only at h
    cases hg : tab.lookup c with
    | none => rw [hg] at h; cases h
    | some g =>
      rw [hg] at h
      dsimp only at h
      obtain ⟨f, D1, f1, f2, f3⟩ := ht c g hg
      obtain ⟨a, d1, ws, rfl, ha, _⟩ := clsOf_at wk rx h1
      cases hm : g [d] st with
      | bad => rw [hm] at h; cases h
      | exc _ _ _ => rw [hm] at h; cases h
      | ok z s2 =>
        rw [hm] at h
        cases z with
        | int m =>
          dsimp only at h
          by_cases hb : 0 ≤ m ∧ m < 2 ^ 63
          · rw [if_pos hb] at h
            cases h
            refine ⟨c, a, d1, ws, f, rfl, ha, f1, f2, by rw [hg]; rfl, hb, fun pins s I => ?_⟩
            refine D1.run tk hr.in1 (in1_frames _) wk (.cons rx .nil) rfl ?_ I (.cons rfl .nil)
            rw [hm]
            intro v W' e w' r'
            cases r'
            exact ⟨rfl, W', e, w', rfl⟩
          · rw [if_neg hb] at h; cases h
        | _ => cases h
theorem td_tru (tk : Takes G.X G.E) (hr : Room (k + 1) G.X.A) (ht : TabOk G k "__len__" 1 tab) (hnb : ∀ c, (tab.lookup c).isSome = true → PySem.W.findIn G.X.K (.ref (G.ca c)) "__bool__" = some none) : TrD G (truD tab) := by
  intro σ W st x dx Q wk rx p
  unfold truD at p
  split at p
  · cases rx; exact qtr_of tru_ok ⟨false, rfl, p W (Ext.refl W) wk⟩
  · rename_i b; cases rx; exact qtr_of tru_ok ⟨b, rfl, p W (Ext.refl W) wk⟩
  · rename_i i; cases rx; exact qtr_of tru_ok ⟨_, rfl, p W (Ext.refl W) wk⟩
  · rename_i y
    cases rx
    by_cases hl : y.length ≤ LIM
    · rw [if_pos hl] at p; exact qtr_of tru_ok ⟨_, ⟨lim_le hl, rfl⟩, p W (Ext.refl W) wk⟩
    · rw [if_neg hl] at p; exact p.elim
  · rename_i xs
    obtain ⟨q, ys, rfl, s1, r1⟩ := rx.sqT
    exact qtr_of tru_ok ⟨_, .inr (.inl ⟨ys, s1, rfl⟩), by rw [isEmpty_reps r1]; exact p W (Ext.refl W) wk⟩
  · split at p
    · rename_i xs hs
      obtain ⟨q, ys, rfl, s1, r1⟩ := seqOf_at wk rx hs
      exact qtr_of tru_ok ⟨_, .inl ⟨ys, s1, rfl⟩, by rw [isEmpty_reps r1]; exact p W (Ext.refl W) wk⟩
    · cases hl : ownLen tab dx st with
      | bad => rw [hl] at p; exact p.elim
      | exc _ _ _ =>
        exfalso
        unfold ownLen at hl
        split at hl
        · split at hl
          · split at hl
            · split at hl <;> cases hl
            · cases hl
          · cases hl
        · cases hl
      | ok n s1 =>
        rw [hl] at p
        obtain ⟨c, a, d1, ws, f, rfl, ha, f1, f2, f3, hb, run⟩ := ownLen_run (σ := σ) tk hr ht wk rx hl
        intro pins s v I rv
        cases rv
        obtain ⟨ox, od, J⟩ := inst_at I ha
        obtain ⟨m, hF⟩ := I.fr
        refine PySem.W.mi_truthy_len hF I.ok.mod.kin J (hnb c f3) f1 f2 (thn (run pins s I) fun v s' hz => ?_)
        obtain ⟨z, H', I', rz, rfl, W', e', w', rfl⟩ := hz
        obtain ⟨t, rfl⟩ := rz
        exact ⟨n, t, rfl, hb.1, hb.2, W'.h, I'.tok _, p W' e' w'⟩

/-! ### len -/
def lenD (tab : Tab) : List D → M D := fun ds st => match ds with
  | [.str y] => if y.length ≤ LIM then .ok (.int y.length) st else .bad
  | [.tup xs] => .ok (.int xs.length) st
  | [x] => (match seqOf x st with
    | some xs => .ok (.int xs.length) st
    | none => (ownLen tab x st).bind fun n s => .ok (.int n) s)
  | _ => .bad
theorem kd_len (tk : Takes G.X G.E) (hr : Room (k + 1) G.X.A) (ht : TabOk G k "__len__" 1 tab) : CallD G (.builtin "len") (lenD tab) := by
  intro σ W st vs ds Q wk r p
  unfold lenD at p
  split at p
  · rename_i y
    cases r with
    | cons r1 rr =>
      cases rr
      cases r1
      by_cases hl : y.length ≤ LIM
      · rw [if_pos hl] at p
        exact qc_of call_len_str ⟨y, rfl, lim_le hl, p _ W (Ext.refl W) wk (.int _)⟩
      · rw [if_neg hl] at p; exact p.elim
  · rename_i xs
    cases r with
    | cons r1 rr =>
      cases rr
      obtain ⟨q, ys, rfl, s1, r1⟩ := r1.sqT
      refine qc_of call_len_seq ⟨q, ys, rfl, .inr s1, ?_⟩
      rw [r1.length]
      exact p _ W (Ext.refl W) wk (.int _)
  · rename_i x _ _
    cases r with
    | cons r1 rr =>
      cases rr
      split at p
      · rename_i xs hs
        obtain ⟨q, ys, rfl, s1, r1⟩ := seqOf_at wk r1 hs
        refine qc_of call_len_seq ⟨q, ys, rfl, .inl s1, ?_⟩
        rw [r1.length]
        exact p _ W (Ext.refl W) wk (.int _)
      · cases hl : ownLen tab x st with
        | bad => rw [hl] at p; exact p.elim
        | exc _ _ _ =>
          exfalso
          unfold ownLen at hl
          split at hl
          · split at hl
            · split at hl
              · split at hl <;> cases hl
              · cases hl
            · cases hl
          · cases hl
        | ok n s1 =>
          rw [hl] at p
          obtain ⟨c, a, d1, ws, f, rfl, ha, f1, f2, f3, hb, run⟩ := ownLen_run (σ := σ) tk hr ht wk r1 hl
          intro pins s us I rv
          cases rv with
          | cons rv1 rvr =>
            cases rvr
            cases rv1
            obtain ⟨ox, od, J⟩ := inst_at I ha
            obtain ⟨m, hF⟩ := I.fr
            refine PySem.W.len_K hF I.ok.mod.kin J f1 f2 (thn (run pins s I) fun v s' hz => ?_)
            obtain ⟨z, H', I', rz, rfl, W', e', w', rfl⟩ := hz
            obtain ⟨t, rfl⟩ := rz
            exact ⟨hb, .int n, W'.h, I'.tok _, ⟨_, rfl⟩, p _ W' e' w' (.int _)⟩
  · exact p.elim

/-! ### abs, int, all, any -/
def absD : List D → M D := fun ds st => match ds with
  | [.int i] => .ok (.int (if i < 0 then -i else i)) st
  | _ => .bad
theorem kd_abs : CallD G (.builtin "abs") absD := by
  intro σ W st vs ds Q wk r p
  unfold absD at p
  split at p
  · rename_i i
    cases r with
    | cons r1 rr =>
      cases rr
      cases r1
      exact qc_of call_abs ⟨i, rfl, p _ W (Ext.refl W) wk (.int _)⟩
  · exact p.elim
def intD : List D → M D := fun ds st => match ds with
  | [.int i] => .ok (.int i) st
  | [.bl b] => .ok (.int (if b then 1 else 0)) st
  | [.str a] => (match PySem.intText? a with
    | some n => if a.length ≤ 640 then .ok (.int n) st else .bad
    | none => .bad)
  | _ => .bad
theorem kd_int : CallD G (.type "int") intD := by
  intro σ W st vs ds Q wk r p
  unfold intD at p
  split at p
  · rename_i i
    cases r with
    | cons r1 rr =>
      cases rr
      cases r1
      exact qc_of call_int1 (.inl ⟨i, rfl, p _ W (Ext.refl W) wk (.int _)⟩)
  · rename_i b
    cases r with
    | cons r1 rr =>
      cases rr
      cases r1
      exact qc_of call_int1 (.inr ⟨b, rfl, p _ W (Ext.refl W) wk (.int _)⟩)
  · rename_i a
    cases r with
    | cons r1 rr =>
      cases rr
      cases r1
      cases hi : PySem.intText? a with
      | none => rw [hi] at p; exact p.elim
      | some n =>
        rw [hi] at p
        dsimp only at p
        by_cases hl : a.length ≤ 640
        · rw [if_pos hl] at p
          exact qc_of call_int_str ⟨a, n, rfl, hi, hl, p _ W (Ext.refl W) wk (.int _)⟩
        · rw [if_neg hl] at p; exact p.elim
  · exact p.elim
/-- a list of truth values -/
def blsOf : List D → Option (List Bool)
  | [] => some []
  | .bl b :: ds => (blsOf ds).map fun r => b :: r
  | _ :: _ => none
theorem bls_rep {K : PySem.W.Frag} {ca : Nat → Addr} {W : Wd} : ∀ {vs : List V} {ds : List D} {bs : List Bool}, Reps K ca W vs ds → blsOf ds = some bs → vs = bs.map V.bl
  | _, _, _, .nil, h => by cases h; rfl
  | _, _, _, .cons (d := d) (ds := ds) r t, h => by
    cases d with
    | bl b =>
      unfold blsOf at h
      cases e : blsOf ds with
      | none => rw [e] at h; cases h
      | some q =>
        rw [e] at h
        cases h
        cases r
        rw [bls_rep t e]
        rfl
    | _ => cases h
def allD (all : Bool) : List D → M D := fun ds st => match ds with
  | [x] => (match seqOf x st with
    | some xs => (match blsOf xs with
      | some bs => .ok (.bl (if all then bs.all id else bs.any id)) st
      | none => .bad)
    | none => .bad)
  | _ => .bad
theorem kd_all (hc : G.X.calm = true) : CallD G (.builtin "all") (allD true) := by
  intro σ W st vs ds Q wk r p
  unfold allD at p
  split at p
  · rename_i x
    cases r with
    | cons r1 rr =>
      cases rr
      cases hs : seqOf x st with
      | none => rw [hs] at p; exact p.elim
      | some xs =>
        rw [hs] at p
        dsimp only at p
        cases hb : blsOf xs with
        | none => rw [hb] at p; exact p.elim
        | some bs =>
          rw [hb] at p
          obtain ⟨q, ys, rfl, s1, r1⟩ := seqOf_at wk r1 hs
          have e := bls_rep r1 hb
          subst e
          exact qc_of (cr_all hc) ⟨q, bs, rfl, s1, p _ W (Ext.refl W) wk (.bl _)⟩
  · exact p.elim
theorem kd_any (hc : G.X.calm = true) : CallD G (.builtin "any") (allD false) := by
  intro σ W st vs ds Q wk r p
  unfold allD at p
  split at p
  · rename_i x
    cases r with
    | cons r1 rr =>
      cases rr
      cases hs : seqOf x st with
      | none => rw [hs] at p; exact p.elim
      | some xs =>
        rw [hs] at p
        dsimp only at p
        cases hb : blsOf xs with
        | none => rw [hb] at p; exact p.elim
        | some bs =>
          rw [hb] at p
          obtain ⟨q, ys, rfl, s1, r1⟩ := seqOf_at wk r1 hs
          have e := bls_rep r1 hb
          subst e
          exact qc_of (cr_any hc) ⟨q, bs, rfl, s1, p _ W (Ext.refl W) wk (.bl _)⟩
  · exact p.elim
end
end Mi

/-! MiOps5: subscripts, slices, methods of built-in types, walks, class attributes. -/
namespace Mi
open PySem PySem.Spec PyProof.Rows L2
section
variable {G : Gx} {k : Nat} {tab : Tab} {a b e o : Expr} {es : List Expr} {ma mb : EM} {aa : AM} {p pos apos cpos : Pos}
/-! ### a[i] -/
def IxD (G : Gx) (f : D → D → M D) : Prop := ∀ σ W st x y dx dy Q, WOk G.X.K G.ca W st → Rep G.X.K G.ca W x dx → Rep G.X.K G.ca W y dy → Post G W σ (f dx dy st) Q → ∃ r, IxR G.X r ∧ r x y W.h Q
theorem ixr_any {X : Cx} : IxR X (fun x y H Q => ∃ r, IxR X r ∧ r x y H Q) := fun value slice pins s σ H x y v u Q I rx ry ⟨r, hr, q⟩ hs => hr value slice pins s σ H x y v u Q I rx ry q hs
theorem re_ix {f : D → D → M D} (hf : IxD G f) (ha : RE G a ma) (hb : RE G b mb) (hs : PlainIx b := by intro _ _; rfl) : RE G (.Subscript a b pos) (eOp f ma mb) := by
  intro σ W env st Q w re hp
  refine qe_of (pe_ix ixr_any pe_q pe_q hs) ?_
  exact two (R := fun x y H => ∃ r, IxR G.X r ∧ r x y H Q) ha hb w re hp fun x y dx dy W2 s2 w2 r1 r2 p2 => hf σ W2 s2 x y dx dy Q w2 r1 r2 p2
def ixD : D → D → M D := fun x y st => match x, y with
  | .str z, .int i => if z.length ≤ LIM then (match atI z.cps.toList i with
    | some c => .ok (.str ⟨#[c]⟩) st
    | none => .bad) else .bad
  | .tup xs, .int i => (match atI xs i with
    | some d => .ok d st
    | none => .bad)
  | x, .int i => (match seqOf x st with
    | some xs => (match atI xs i with
      | some d => .ok d st
      | none => .bad)
    | none => .bad)
  | _, _ => .bad
theorem atI_reps {K : PySem.W.Frag} {ca : Nat → Addr} {W : Wd} {xs : List V} {ds : List D} {i : Int} {d : D} (r : Reps K ca W xs ds) (h : atI ds i = some d) : ∃ v, atI xs i = some v ∧ Rep K ca W v d := by
  unfold atI at h ⊢
  rw [r.length]
  cases e : ixN ds.length i with
  | none => rw [e] at h; cases h
  | some j =>
    rw [e] at h
    exact r.get h
theorem xd_ix : IxD G ixD := by
  intro σ W st x y dx dy Q wk rx ry p
  unfold ixD at p
  split at p
  · rename_i z i
    cases rx; cases ry
    by_cases hl : z.length ≤ LIM
    · rw [if_pos hl] at p
      cases hc : atI z.cps.toList i with
      | none => rw [hc] at p; exact p.elim
      | some c => rw [hc] at p; exact ⟨_, ix_str, z, i, c, rfl, rfl, lim_le hl, hc, p _ W (Ext.refl W) wk (.str _)⟩
    · rw [if_neg hl] at p; exact p.elim
  · rename_i xs i
    cases ry
    obtain ⟨q, ys, rfl, s1, r1⟩ := rx.sqT
    cases hc : atI xs i with
    | none => rw [hc] at p; exact p.elim
    | some d =>
      rw [hc] at p
      obtain ⟨v, h1, h2⟩ := atI_reps r1 hc
      exact ⟨_, ix_tup, q, ys, i, v, rfl, rfl, s1, h1, p v W (Ext.refl W) wk h2⟩
  · rename_i i _ _
    cases ry
    cases hs : seqOf dx st with
    | none => rw [hs] at p; exact p.elim
    | some xs =>
      rw [hs] at p
      dsimp only at p
      cases hc : atI xs i with
      | none => rw [hc] at p; exact p.elim
      | some d =>
        rw [hc] at p
        obtain ⟨q, ys, rfl, s1, r1⟩ := seqOf_at wk rx hs
        obtain ⟨v, h1, h2⟩ := atI_reps r1 hc
        exact ⟨_, ix_list, q, ys, i, v, rfl, rfl, s1, h1, p v W (Ext.refl W) wk h2⟩
  · exact p.elim

/-! ### a[lo:hi] -/
abbrev PM := En → M (Option Int)
def pNone : PM := fun _ st => .ok none st
def pSome (a : EM) : PM := fun env st => (a env st).bind fun x s => match x with
  | .int i => .ok (some i) s
  | _ => .bad
def PostP (G : Gx) (W : Wd) (σ : L2.St) (r : Res (Option Int)) (Q : Option Int → Hp → Prop) : Prop := match r with
  | .ok o st => ∀ W', Ext W W' → WOk G.X.K G.ca W' st → Q o W'.h
  | .exc c fs st => ∀ dd W', Ext W W' → WOk G.X.K G.ca W' st → RepX G.X.K G.ca W' fs dd → G.E (.ref (G.ca c)) dd σ W'.h
  | .bad => False
def QP (G : Gx) (e : Option Expr) : TO := fun σ H Q => ∃ t, PO G.X e t ∧ t σ H Q
theorem po_q {e : Option Expr} : PO G.X e (QP G e) := ⟨fun pins s σ H Q I ⟨_, ht, q⟩ => ht.run pins s σ H Q I q⟩
def RP (G : Gx) (e : Option Expr) (m : PM) : Prop := ∀ σ W env st Q, WOk G.X.K G.ca W st → RepE G.X.K G.ca G.xc W σ env → PostP G W σ (m env st) Q → QP G e σ W.h Q
theorem rp_none : RP G none pNone := fun σ W env st Q w re p => ⟨_, po_none, p W (Ext.refl W) w⟩
theorem rp_some (ha : RE G a ma) : RP G (some a) (pSome ma) := by
  intro σ W env st Q w re p
  refine ⟨_, po_some pe_q, ?_⟩
  refine ha σ W env st _ w re ?_
  unfold pSome at p
  cases hm : ma env st with
  | bad => rw [hm] at p; exact p
  | exc c fs s1 => rw [hm] at p; exact p
  | ok d s1 =>
    rw [hm] at p
    intro v W' e1 w1 r1
    cases r1 with
    | int i => exact ⟨i, rfl, p W' e1 w1⟩
    | _ => exact p.elim
def SlD (G : Gx) (f : D → Option Int → Option Int → M D) : Prop := ∀ σ W st x dx lo hi Q, WOk G.X.K G.ca W st → Rep G.X.K G.ca W x dx → Post G W σ (f dx lo hi st) Q → ∃ r, L2.SlR G.X r ∧ r x lo hi W.h Q
theorem slr_any {X : Cx} : L2.SlR X (fun x lo hi H Q => ∃ r, L2.SlR X r ∧ r x lo hi H Q) := fun pins s σ H x v vl vu lo hi sl Q I rx hs pl pu ⟨r, hr, q⟩ => hr pins s σ H x v vl vu lo hi sl Q I rx hs pl pu q
def eSl (f : D → Option Int → Option Int → M D) (a : EM) (lo hi : PM) : EM := fun env st => (a env st).bind fun x s => (lo env s).bind fun l s2 => (hi env s2).bind fun h s3 => f x l h s3
theorem bindPE {W : Wd} {σ : L2.St} {r : Res (Option Int)} {f : Option Int → M D} {Q : VK} {Q1 : Option Int → Hp → Prop} (h : Post G W σ (r.bind f) Q) (kk : ∀ (d : Option Int) (s1 : Sto) (W2 : Wd), Ext W W2 → WOk G.X.K G.ca W2 s1 → Post G W2 σ (f d s1) Q → Q1 d W2.h) : PostP G W σ r Q1 := by
  cases r with
  | ok d s1 => exact fun W2 e w => kk d s1 W2 e w (Post.mono e h)
  | exc c fs s1 => exact h
  | bad => exact h
theorem re_slice {f : D → Option Int → Option Int → M D} {lo hi : Option Expr} {ml mh : PM} {p2 : Pos} (hf : SlD G f) (ha : RE G a ma) (hl : RP G lo ml) (hh : RP G hi mh) : RE G (.Subscript a (.Slice lo hi none p2) pos) (eSl f ma ml mh) := by
  intro σ W env st Q w re hp
  refine qe_of (pe_slice slr_any pe_q po_q po_q) ?_
  refine ha σ W env st _ w re (bindEE hp fun dx s1 x W1 e1 w1 r1 p1 => ?_)
  refine hl σ W1 env s1 _ w1 (re.mono e1) (bindPE p1 fun l s2 W2 e2 w2 p2 => ?_)
  refine hh σ W2 env s2 _ w2 ((re.mono e1).mono e2) (bindPE p2 fun h s3 W3 e3 w3 p3 => ?_)
  exact hf σ W3 s3 x dx l h Q w3 ((r1.mono e2).mono e3) p3
def cutD (xs : List D) (lo hi : Option Int) : List D := (xs.drop (HT.sIx xs.length 0 lo)).take (HT.sIx xs.length xs.length hi - HT.sIx xs.length 0 lo)
theorem cut_reps {K : PySem.W.Frag} {ca : Nat → Addr} {W : Wd} {xs : List V} {ds : List D} (r : Reps K ca W xs ds) (lo hi : Option Int) : Reps K ca W (cutV xs lo hi) (cutD ds lo hi) := by
  unfold cutV cutD
  rw [r.length]
  exact (r.drop _).take _
def slD : D → Option Int → Option Int → M D := fun x lo hi st => match x with
  | .str z => if z.length ≤ LIM then .ok (.str (cutS z lo hi)) st else .bad
  | x => (match seqOf x st with
    | some xs => .ok (.lst (cutD xs lo hi)) st
    | none => .bad)
theorem sd_sl : SlD G slD := by
  intro σ W st x dx lo hi Q wk rx p
  unfold slD at p
  split at p
  · rename_i z
    cases rx
    by_cases hl : z.length ≤ LIM
    · rw [if_pos hl] at p; exact ⟨_, sl_str, z, rfl, lim_le hl, p _ W (Ext.refl W) wk (.str _)⟩
    · rw [if_neg hl] at p; exact p.elim
  · cases hs : seqOf dx st with
    | none => rw [hs] at p; exact p.elim
    | some xs =>
      rw [hs] at p
      obtain ⟨q, ys, rfl, s1, r1⟩ := seqOf_at wk rx hs
      refine ⟨_, sl_list, q, ys, rfl, s1, fun n hn => ?_⟩
      have x1 := W.lay_ext (o := .lst (cutV ys lo hi)) hn
      exact p (.ref n) _ x1 (wk.lay hn) (.lst (W.lay_nav hn) upd_same ((cut_reps r1 lo hi).mono x1))

/-! ### methods of built-in types -/
def tyD (T : String) (d : D) (st : Sto) : Bool := match d with
  | .str _ => T == "str"
  | .int _ => T == "int"
  | d => T == "list" && (seqOf d st).isSome
theorem tyD_at {K : PySem.W.Frag} {ca : Nat → Addr} {W : Wd} {st : Sto} {T : String} {x : V} {d : D} (wk : WOk K ca W st) (r : Rep K ca W x d) (h : tyD T d st = true) : tyV K T x W.h := by
  unfold tyD at h
  split at h
  · cases r; exact beq_iff_eq.mp h
  · cases r; exact beq_iff_eq.mp h
  · obtain ⟨h1, h2⟩ := Bool.and_eq_true_iff.mp h
    obtain ⟨xs, hs⟩ := Option.isSome_iff_exists.mp h2
    obtain ⟨q, ys, rfl, s1, _⟩ := seqOf_at wk r hs
    exact .inl ⟨beq_iff_eq.mp h1, ys, s1⟩
def MtD (G : Gx) (id : String) (f : D → List D → M D) : Prop := ∀ σ W st x vs dx ds Q, WOk G.X.K G.ca W st → Rep G.X.K G.ca W x dx → Reps G.X.K G.ca W vs ds → Post G W σ (f dx ds st) Q → ∃ r, MtR G.X id r ∧ r x vs W.h Q
theorem mtr_any {X : Cx} {id : String} : MtR X id (fun x vs H Q => ∃ r, MtR X id r ∧ r x vs H Q) := fun pins s σ H x xs v us Q I rx rv ⟨r, hr, q⟩ => hr pins s σ H x xs v us Q I rx rv q
def eBm (T : String) (f : D → List D → M D) (o : EM) (a : AM) : EM := fun env st => (o env st).bind fun x s => if tyD T x s = true then (a env s).bind fun ds s2 => f x ds s2 else .bad
theorem re_bm {T id : String} {name : Str} {f : D → List D → M D} (pa : PlainAttrs T) (slot : PySem.Slot T name id) (hty : typeOf (.builtin id) = pure (.type "method_descriptor")) (hf : MtD G id f) (ho : RE G o ma) (ha : RA G (e :: es) aa)
    (hbase : attributeBase o name G.X.env (eval o G.X.env) = eval o G.X.env := by rfl)
    (hfew : ((backTo cpos (starEach (e :: es) G.X.env)).all (fun x => !x.1) && (backToKw cpos (keywordEach [] G.X.env)).all (fun x => x.1.isSome) && decide ((e :: es).length + ([] : List Keyword).length + (if ([] : List Keyword).isEmpty then 0 else 1) < 30)) = true := by rfl)
    (hline : (apos.endLine == cpos.line) = true := by rfl) (hs : starEach (e :: es) G.X.env = (false, eval e G.X.env) :: starEach es G.X.env := by rfl) (hplain : (backTo cpos (starEach es G.X.env)).any (·.1) = false := by rfl) :
    RE G (.Call (.Attribute o name apos) (e :: es) [] cpos) (eBm T f ma aa) := by
  intro σ W env st Q w re hp
  refine qe_of (pe_bm pa slot hty mtr_any pe_q pa_q hbase hfew hline hs hplain) ?_
  refine ho σ W env st _ w re (bindEE hp fun dx s1 x W1 e1 w1 r1 p1 => ?_)
  by_cases ht : tyD T dx s1 = true
  · rw [if_pos ht] at p1
    refine ⟨tyD_at w1 r1 ht, ?_⟩
    exact ha σ W1 env s1 _ w1 (re.mono e1) (bindAE p1 fun ds s2 vs W2 e2 w2 r2 p2 => hf σ W2 s2 x vs dx ds Q w2 (r1.mono e2) r2 p2)
  · rw [if_neg ht] at p1; exact p1.elim
theorem re_bm0 {T id : String} {name : Str} {f : D → List D → M D} (pa : PlainAttrs T) (slot : PySem.Slot T name id) (hty : typeOf (.builtin id) = pure (.type "method_descriptor")) (hf : MtD G id f) (ho : RE G o ma)
    (hbase : attributeBase o name G.X.env (eval o G.X.env) = eval o G.X.env := by rfl) (hline : (apos.endLine == cpos.line) = true := by rfl) : RE G (.Call (.Attribute o name apos) [] [] cpos) (eBm T f ma aNil) := by
  intro σ W env st Q w re hp
  refine qe_of (pe_bm0 pa slot hty mtr_any pe_q hbase hline) ?_
  refine ho σ W env st _ w re (bindEE hp fun dx s1 x W1 e1 w1 r1 p1 => ?_)
  by_cases ht : tyD T dx s1 = true
  · rw [if_pos ht] at p1
    exact ⟨tyD_at w1 r1 ht, hf σ W1 s1 x [] dx [] Q w1 r1 .nil p1⟩
  · rw [if_neg ht] at p1; exact p1.elim
/-- texts of a list -/
def strsOf : List D → Option (List Str)
  | [] => some []
  | .str b :: ds => (strsOf ds).map fun r => b :: r
  | _ :: _ => none
theorem strs_rep {K : PySem.W.Frag} {ca : Nat → Addr} {W : Wd} : ∀ {vs : List V} {ds : List D} {bs : List Str}, Reps K ca W vs ds → strsOf ds = some bs → vs = bs.map V.str
  | _, _, _, .nil, h => by cases h; rfl
  | _, _, _, .cons (d := d) (ds := ds) r t, h => by
    cases d with
    | str b =>
      unfold strsOf at h
      cases e : strsOf ds with
      | none => rw [e] at h; cases h
      | some q =>
        rw [e] at h
        cases h
        cases r
        rw [strs_rep t e]
        rfl
    | _ => cases h
def joinD : D → List D → M D := fun x ds st => match x, ds with
  | .str sep, [y] => (match seqOf y st with
    | some xs => (match strsOf xs with
      | some ys => if (ys.map (·.length)).sum + ys.length * sep.length ≤ 16777216 then .ok (.str (Txt.join sep ys)) st else .bad
      | none => .bad)
    | none => .bad)
  | _, _ => .bad
theorem md_join : MtD G "str.join" joinD := by
  intro σ W st x vs dx ds Q wk rx rv p
  unfold joinD at p
  split at p
  · rename_i sep y
    cases rx
    cases rv with
    | cons r1 rr =>
      cases rr
      cases hs : seqOf y st with
      | none => rw [hs] at p; exact p.elim
      | some xs =>
        rw [hs] at p
        dsimp only at p
        cases hb : strsOf xs with
        | none => rw [hb] at p; exact p.elim
        | some ys =>
          rw [hb] at p
          dsimp only at p
          by_cases hl : (ys.map (·.length)).sum + ys.length * sep.length ≤ 16777216
          · rw [if_pos hl] at p
            obtain ⟨q, zs, rfl, s1, r1⟩ := seqOf_at wk r1 hs
            have e := strs_rep r1 hb
            subst e
            exact ⟨_, mt_join, sep, q, ys, rfl, rfl, .inl s1, hl, p _ W (Ext.refl W) wk (.str _)⟩
          · rw [if_neg hl] at p; exact p.elim
  · exact p.elim
/-- append, pop on a cell's list -/
def appD : D → List D → M D := fun x ds st => match x, ds with
  | .cell n, [y] => (match st[n]? with
    | some (.lst xs) => if xs.length < LIM then .ok .non (st.set n (.lst (xs ++ [y]))) else .bad
    | _ => .bad)
  | _, _ => .bad
theorem md_app : MtD G "list.append" appD := by
  intro σ W st x vs dx ds Q wk rx rv p
  unfold appD at p
  split at p
  · rename_i n y
    cases rx with
    | cell hg =>
      rename_i q
      cases rv with
      | cons r1 rr =>
        cases rr
        cases hs : st[n]? with
        | none => rw [hs] at p; exact p.elim
        | some c =>
          rw [hs] at p
          cases c with
          | lst xs =>
            dsimp only at p
            by_cases hl : xs.length < LIM
            · rw [if_pos hl] at p
              obtain ⟨ys, h1, h2⟩ := wk.cell n q _ hg hs
              rename_i v
              have hne : W.h q ≠ none := by rw [h1]; exact fun z => by cases z
              have kk := W.wr_kp (o := .lst (ys ++ [v])) hne (W.gav q (List.mem_of_getElem? hg))
              obtain ⟨e1, w1⟩ := cell_wr (o := .lst (ys ++ [v])) (c := .lst (xs ++ [y])) wk hg hne ⟨_, upd_same, (h2.kp kk).append (.cons (r1.kp kk) .nil)⟩
              exact ⟨_, mt_append, q, ys, v, rfl, rfl, h1, lim_lt (by rw [h2.length]; exact hl), p .non _ e1 w1 .non⟩
            · rw [if_neg hl] at p; exact p.elim
          | ins _ _ => exact p.elim
          | dk _ => exact p.elim
  · exact p.elim
def popD : D → List D → M D := fun x ds st => match x, ds with
  | .cell n, [.int i] => (match st[n]? with
    | some (.lst xs) => if xs.length ≤ LIM then (match ixN xs.length i with
      | some j => (match xs[j]? with
        | some d => .ok d (st.set n (.lst (xs.eraseIdx j)))
        | none => .bad)
      | none => .bad) else .bad
    | _ => .bad)
  | _, _ => .bad
theorem Reps.eraseIdx {K : PySem.W.Frag} {ca : Nat → Addr} {W : Wd} : ∀ {vs : List V} {ds : List D} (i : Nat), Reps K ca W vs ds → Reps K ca W (vs.eraseIdx i) (ds.eraseIdx i)
  | _, _, _, .nil => .nil
  | _, _, 0, .cons _ t => t
  | _, _, i + 1, .cons q t => .cons q (Reps.eraseIdx i t)
theorem md_pop : MtD G "list.pop" popD := by
  intro σ W st x vs dx ds Q wk rx rv p
  unfold popD at p
  split at p
  · rename_i n i
    cases rx with
    | cell hg =>
      rename_i q
      cases rv with
      | cons r1 rr =>
        cases rr
        cases r1
        cases hs : st[n]? with
        | none => rw [hs] at p; exact p.elim
        | some c =>
          rw [hs] at p
          cases c with
          | lst xs =>
            dsimp only at p
            by_cases hlim : xs.length ≤ LIM
            case neg => rw [if_neg hlim] at p; exact p.elim
            rw [if_pos hlim] at p
            cases hj : ixN xs.length i with
            | none => rw [hj] at p; exact p.elim
            | some j =>
              rw [hj] at p
              dsimp only at p
              cases hd : xs[j]? with
              | none => rw [hd] at p; exact p.elim
              | some d =>
                rw [hd] at p
                obtain ⟨ys, h1, h2⟩ := wk.cell n q _ hg hs
                obtain ⟨v, h3, h4⟩ := h2.get hd
                have hne : W.h q ≠ none := by rw [h1]; exact fun z => by cases z
                have kk := W.wr_kp (o := .lst (ys.eraseIdx j)) hne (W.gav q (List.mem_of_getElem? hg))
                obtain ⟨e1, w1⟩ := cell_wr (o := .lst (ys.eraseIdx j)) (c := .lst (xs.eraseIdx j)) wk hg hne ⟨_, upd_same, (h2.kp kk).eraseIdx j⟩
                obtain ⟨g1, g2, g3, g4⟩ := ixN_seq hj
                have hlen : ys.length = xs.length := h2.length
                have hz : xs.length ≤ 16777216 := hlim
                refine ⟨_, mt_popAt, q, ys, i, j, v, rfl, rfl, h1, ?_, ?_, by rw [hlen]; exact g1, h3, p v _ e1 w1 (h4.mono e1)⟩
                · omega
                · omega
          | ins _ _ => exact p.elim
          | dk _ => exact p.elim
  · exact p.elim
end
end Mi

/-! MiOps6: walks over values and ranges, class attributes, classmethods, classes held by a name. -/
namespace Mi
open PySem PySem.Spec PyProof.Rows L2 ClX
section
variable {G : Gx} {k : Nat} {tab : Tab} {tg a b e o : Expr} {es : List Expr} {ma mb : EM} {aa : AM} {p pos apos cpos : Pos}
/-! ### what is walked: lists, tuples, texts -/
theorem jok_list {K : PySem.W.Frag} {ca : Nat → Addr} {W : Wd} {q : Addr} {xs : List V} {ds : List D} (h : ∀ W', Kp W W' → SqL K W'.h q xs) (r : Reps K ca W xs ds) : JOk K ca W (Itl K q) ds := by
  intro W' st kp wk
  refine ⟨fun i d hd => ?_, xs, h W' kp, by rw [r.length]; exact Nat.le_refl _⟩
  obtain ⟨v, h1, h2⟩ := r.get hd
  refine ⟨⟨xs, v, h W' kp, h1⟩, fun x H' y => ?_⟩
  obtain ⟨rfl, y⟩ := y
  have e := y xs (h W' kp)
  rw [h1] at e
  cases e
  exact ⟨W', rfl, Ext.refl W', wk, h2.kp kp⟩
theorem jok_tup {K : PySem.W.Frag} {ca : Nat → Addr} {W : Wd} {q : Addr} {xs : List V} {ds : List D} (h : ∀ W', Kp W W' → SqT K W'.h q xs) (r : Reps K ca W xs ds) : JOk K ca W (Itt K q) ds := by
  intro W' st kp wk
  refine ⟨fun i d hd => ?_, xs, h W' kp, by rw [r.length]; exact Nat.le_refl _⟩
  obtain ⟨v, h1, h2⟩ := r.get hd
  refine ⟨⟨xs, v, h W' kp, h1⟩, fun x H' y => ?_⟩
  obtain ⟨rfl, y⟩ := y
  have e := y xs (h W' kp)
  rw [h1] at e
  cases e
  exact ⟨W', rfl, Ext.refl W', wk, h2.kp kp⟩
/-- the signs of a text -/
def signs (z : Str) : List D := z.cps.toList.map fun c => .str ⟨#[c]⟩
theorem jok_str {K : PySem.W.Frag} {ca : Nat → Addr} {W : Wd} (z : Str) : JOk K ca W (Its z) (signs z) := by
  intro W' st kp wk
  have w := walk_str (z := z)
  refine ⟨fun i d hd => ?_, ?_⟩
  · unfold signs at hd
    rw [List.getElem?_map] at hd
    have hi : i < z.cps.size := by
      rcases Nat.lt_or_ge i z.cps.size with h | h
      · exact h
      · rw [List.getElem?_eq_none (by simpa using h)] at hd; cases hd
    refine ⟨w.goes i W'.h hi trivial, fun x H' y => ?_⟩
    obtain ⟨rfl, c, h1, rfl⟩ := w.yields i W'.h x H' hi trivial y
    rw [Array.getElem?_toList, h1] at hd
    cases hd
    exact ⟨W', rfl, Ext.refl W', wk, .str _⟩
  · have e : (signs z).length = z.cps.size := by unfold signs; simp
    rw [e]
    exact w.stops W'.h trivial
def walkD : D → Option (List D) := fun d => match d with
  | .lst ds => some ds
  | .fix ds => some ds
  | .tup ds => some ds
  | .str z => some (signs z)
  | _ => none
def iVal (a : EM) : AM := fun env st => (a env st).bind fun x s => match walkD x with
  | some ds => .ok ds s
  | none => .bad
theorem ri_val (ha : RE G a ma) : RI G tg a (iVal ma) := by
  intro σ W env st R w re hp pins s I
  -- the value's kind is known once it stands: all three rules go through pe_q
  have key : QE G a σ W.h fun x H => ∃ W1 : Wd, H = W1.h ∧ ((∃ q xs, x = .ref q ∧ SqL G.X.K H q xs ∧ R (Itl G.X.K q) H) ∨ (∃ q xs, x = .ref q ∧ SqT G.X.K H q xs ∧ R (Itt G.X.K q) H) ∨ ∃ z, x = .str z ∧ R (Its z) H) := by
    refine ha σ W env st _ w re ?_
    unfold iVal at hp
    cases hm : ma env st with
    | bad => rw [hm] at hp; exact hp
    | exc c fs s1 => rw [hm] at hp; exact hp
    | ok d s1 =>
      rw [hm] at hp
      intro v W1 e1 w1 r1
      refine ⟨W1, rfl, ?_⟩
      cases r1 with
      | lst n h r => exact .inl ⟨_, _, rfl, .inl (.inl h), hp _ W1 e1 w1 (jok_list (fun W' kp => .inl (.inl (kp.keep _ _ n h))) r)⟩
      | fix n h r => exact .inl ⟨_, _, rfl, .inl h, hp _ W1 e1 w1 (jok_list (fun W' kp => .inl (kp.kw.rd n h).2) r)⟩
      | fixK h r => exact .inl ⟨_, _, rfl, h.sq, hp _ W1 e1 w1 (jok_list (fun W' kp => h.sq) r)⟩
      | tup n h r => exact .inr (.inl ⟨_, _, rfl, .inl h, hp _ W1 e1 w1 (jok_tup (fun W' kp => .inl (kp.kw.rd n h).2) r)⟩)
      | tupK h r => exact .inr (.inl ⟨_, _, rfl, h.sq, hp _ W1 e1 w1 (jok_tup (fun W' kp => h.sq) r)⟩)
      | str z => exact .inr (.inr ⟨z, rfl, hp _ W1 e1 w1 (jok_str z)⟩)
      | _ => exact hp.elim
  have tail : ∀ (x : V) (H : Hp) (v : Value) (s1 : Shared), Inv G.X pins σ H s1 → RelV x v → ((∃ q xs, x = .ref q ∧ SqL G.X.K H q xs ∧ R (Itl G.X.K q) H) ∨ (∃ q xs, x = .ref q ∧ SqT G.X.K H q xs ∧ R (Itt G.X.K q) H) ∨ ∃ z, x = .str z ∧ R (Its z) H) →
      wpAny (model G.X.prog G.X.w) G.X.A (pyIter v) (PIE G.X pins σ tg R) G.X.xe s1 := by
    intro x H v s1 I1 rv q1
    -- by the layer's own rules, read at a name that holds the value
    rcases q1 with ⟨q, xs, rfl, hs, hR⟩ | ⟨q, xs, rfl, hs, hR⟩ | ⟨z, rfl, hR⟩
    · cases rv
      obtain ⟨its, r, pl, hz⟩ := I1.list hs
      exact wpAny_pyIter_list pl.isList (pi_one (tk := s1.toks) I1 _ (turn_list q _) ⟨_, Heap.get?_push_size _ rfl, rfl, rfl⟩ hR)
    · cases rv
      obtain ⟨its, r, pl, hz⟩ := I1.tuple hs
      exact wpAny_pyIter_tuple (show s1.heap.IsTuple q its.toArray from pl) (pi_one (tk := s1.toks) I1 _ (turn_tuple q _) ⟨_, Heap.get?_push_size _ rfl, rfl, rfl⟩ hR)
    · obtain ⟨t, rfl⟩ := rv
      cases hall : z.cps.all (· < 128)
      · exact wpAny_pyIter_wide hall (pi_one (tk := s1.toks) I1 _ (turn_str _ z t "str_iterator" (.inr rfl)) ⟨_, Heap.get?_push_size _ rfl, rfl, rfl⟩ hR)
      · exact wpAny_pyIter_ascii hall (pi_one (tk := s1.toks) I1 _ (turn_str _ z t "str_ascii_iterator" (.inl rfl)) ⟨_, Heap.get?_push_size _ rfl, rfl, rfl⟩ hR)
  refine thn (key pins s I) fun v s1 hv => ?_
  obtain ⟨x, H1, I1, r1, W1, rfl, q1⟩ := hv
  exact tail x _ v s1 I1 r1 q1
/-! ### range -/
def rngL (lo : Int) (n : Nat) : List D := (List.range n).map fun (i : Nat) => .int (lo + (i : Int))
theorem jok_rng {K : PySem.W.Frag} {ca : Nat → Addr} {W : Wd} (lo : Int) (n : Nat) : JOk K ca W (Itr lo n) (rngL lo n) := by
  intro W' st kp wk
  refine ⟨fun i d hd => ?_, ?_⟩
  · unfold rngL at hd
    rw [List.getElem?_map] at hd
    have hi : i < n := by
      rcases Nat.lt_or_ge i n with h | h
      · exact h
      · rw [List.getElem?_eq_none (by simpa using h)] at hd; cases hd
    rw [List.getElem?_range hi] at hd
    cases hd
    refine ⟨hi, fun x H' y => ?_⟩
    obtain ⟨rfl, rfl⟩ := y
    exact ⟨W', rfl, Ext.refl W', wk, .int _⟩
  · show n ≤ (rngL lo n).length
    unfold rngL
    simp
def iR1 (a : AM) : AM := fun env st => (a env st).bind fun ds s => match ds with
  | [.int n] => if -(2 ^ 62) ≤ n ∧ n < 2 ^ 62 then .ok (rngL 0 n.toNat) s else .bad
  | _ => .bad
def iR2 (a : AM) : AM := fun env st => (a env st).bind fun ds s => match ds with
  | [.int m, .int n] => if (-(2 ^ 62) ≤ m ∧ m < 2 ^ 62) ∧ -(2 ^ 62) ≤ n ∧ n < 2 ^ 62 then .ok (rngL m (n - m).toNat) s else .bad
  | _ => .bad
theorem bindAI {W : Wd} {σ : L2.St} {r : Res (List D)} {f : List D → M (List D)} {R : It → Hp → Prop} {Q1 : List V → Hp → Prop} (h : PostI G W σ (r.bind f) R) (kk : ∀ (d : List D) (s1 : Sto) (v : List V) (W2 : Wd), Ext W W2 → WOk G.X.K G.ca W2 s1 → Reps G.X.K G.ca W2 v d → PostI G W2 σ (f d s1) R → Q1 v W2.h) : PostA G W σ r Q1 := by
  cases r with
  | ok d s1 =>
    refine fun v W2 e w r => kk d s1 v W2 e w r ?_
    have h : PostI G W σ (f d s1) R := h
    cases hf : f d s1 with
    | ok ds s2 => rw [hf] at h; exact fun J W' x => h J W' (e.trans x)
    | exc c fs s2 => rw [hf] at h; exact fun dd W' x => h dd W' (e.trans x)
    | bad => rw [hf] at h; exact h
  | exc c fs s1 => exact h
  | bad => exact h
theorem ri_range1 (hg : Gl G.X "range") (hm : G.X.mg "range" = none) (ha : RA G [a] aa) (hs : starEach [a] G.X.env = [(false, eval a G.X.env)] := by rfl) : RI G tg (.Call (.Name "range" p) [a] [] pos) (iR1 aa) := by
  intro σ W env st R w re hp
  refine qi_of (pi_range1 hg hm pa_q hs) ?_
  refine ha σ W env st _ w re (bindAI hp fun ds s1 vs W1 e1 w1 r1 p1 => ?_)
  split at p1
  · rename_i n
    by_cases hb : -(2 ^ 62) ≤ n ∧ n < 2 ^ 62
    · rw [if_pos hb] at p1
      cases r1 with
      | cons ra rb =>
        cases rb
        cases ra
        exact ⟨n, rfl, hb.1, hb.2, p1 _ W1 (Ext.refl W1) w1 (jok_rng 0 n.toNat)⟩
    · rw [if_neg hb] at p1; exact p1.elim
  · exact p1.elim
theorem ri_range2 (hg : Gl G.X "range") (hm : G.X.mg "range" = none) (ha : RA G [a, b] aa) (hs : starEach [a, b] G.X.env = [(false, eval a G.X.env), (false, eval b G.X.env)] := by rfl) (hs2 : starEach [b] G.X.env = [(false, eval b G.X.env)] := by rfl) : RI G tg (.Call (.Name "range" p) [a, b] [] pos) (iR2 aa) := by
  intro σ W env st R w re hp
  refine qi_of (pi_range2 hg hm pa_q hs hs2) ?_
  refine ha σ W env st _ w re (bindAI hp fun ds s1 vs W1 e1 w1 r1 p1 => ?_)
  split at p1
  · rename_i m n
    by_cases hb : (-(2 ^ 62) ≤ m ∧ m < 2 ^ 62) ∧ -(2 ^ 62) ≤ n ∧ n < 2 ^ 62
    · rw [if_pos hb] at p1
      cases r1 with
      | cons ra rb =>
        cases rb with
        | cons rb rc =>
          cases rc
          cases ra
          cases rb
          exact ⟨m, n, rfl, ⟨hb.1.1, hb.1.2, hb.2.1, hb.2.2⟩, p1 _ W1 (Ext.refl W1) w1 (jok_rng m (n - m).toNat)⟩
    · rw [if_neg hb] at p1; exact p1.elim
  · exact p1.elim

/-! ### C.f, a class's constant; C.m(..), a classmethod; a class that a name holds -/
theorem re_ccon {x : Str} {f : Str} {C : Addr} {mc : Value} {v : V} {u : Value} {d : D} {pn : Pos} (hg : Gl G.X x) (hm : G.X.mg x = some (.ref C)) (r : CRead G.X.K C mc) (c : CVal G.X.K C mc f v u) (rd : ∀ W, Rep G.X.K G.ca W v d) (hb : attributeBase (.Name x pn) f G.X.env (eval (.Name x pn) G.X.env) = eval (.Name x pn) G.X.env := by rfl) (hd : (x == ("__debug__" : Str)) = false := by decide) :
    RE G (.Attribute (.Name x pn) f pos) (eC d) := by
  intro σ W env st Q w re hp
  exact qe_of (pe_cval (pe_glob (v := .ref C) hg hm rfl hd) hb) ⟨C, mc, v, u, rfl, r, c, hp v W (Ext.refl W) w (rd W)⟩
def eCm (c n : Nat) (g : List D → M D) (a : AM) : EM := fun env st => (a env st).bind fun ds s => if ds.length + 1 = n then g (.cls c :: ds) s else .bad
theorem re_cmeth {x : Str} {name : Str} {c : Nat} {mc : Value} {pp f : Addr} {g : List D → M D} {n : Nat} {pl : Sem Bool} {pn : Pos} (tk : Takes G.X G.E) (hr : Room k G.X.A) (hg : Gl G.X x) (hm : G.X.mg x = some (.ref (G.ca c))) (r : CRead G.X.K (G.ca c) mc) (cm : CMet G.X.K (G.ca c) mc name pp f) (hc : Df G k f n g) (ha : RA G (e :: es) aa)
    (hst : starEach (e :: es) G.X.env = (false, eval e G.X.env) :: starEach es G.X.env := by rfl) (hpl : (backTo pos (starEach es G.X.env)).any (·.1) = false := by rfl) (hd : (x == ("__debug__" : Str)) = false := by decide)
    (hev : eval (.Call (.Attribute (.Name x pn) name apos) (e :: es) [] pos) G.X.env = (do
      let ov ← eval (.Name x pn) G.X.env
      standAt apos.atName
      let (f, first) ← holding [ov] (getMethod ov name pl)
      callWith pos f first (backTo pos (starEach (e :: es) G.X.env)) (backToKw pos (keywordEach [] G.X.env))) := by rfl) :
    RE G (.Call (.Attribute (.Name x pn) name apos) (e :: es) [] pos) (eCm c n g aa) := by
  intro σ W env st Q w re hp pins s I
  refine PySem.W.methodCall_KW (pl := pl) (thn ((pe_glob (v := .ref (G.ca c)) hg hm rfl hd).run pins s σ W.h (fun x H => x = .ref (G.ca c) ∧ H = W.h) I ⟨rfl, rfl⟩) fun u s1 hu => ?_) hev
  obtain ⟨y, H1, I1, ry, rfl, rfl⟩ := hu
  cases ry
  refine getmethcm_ok I1 r cm fun s2 I2 => ?_
  refine callwith_cm I2 (base_none I1 (Nat.le_refl _)) cm.fi (thn (ha σ W env st (fun vs H => ∃ W1 s3 ds, H = W1.h ∧ WOk G.X.K G.ca W1 s3 ∧ Reps G.X.K G.ca W1 vs ds ∧ ds.length + 1 = n ∧ Post G W1 σ (g (.cls c :: ds) s3) Q) w re (bindAE hp fun ds s3 vs W1 e1 w1 r1 p1 => ?_) pos _ s2 I2) fun us s3 hv => ?_) hst hpl
  · by_cases hl : ds.length + 1 = n
    · rw [if_pos hl] at p1; exact ⟨W1, s3, ds, rfl, w1, r1, hl, p1⟩
    · rw [if_neg hl] at p1; exact p1.elim
  · obtain ⟨vs, H2, I3, rv, W1, s4, ds, rfl, w1, r1, hl, p1⟩ := hv
    refine ⟨⟨pin_at I3, I3.kIn⟩, ?_⟩
    have z : wpAny (model G.X.prog G.X.w) G.X.A (call (.ref s1.heap.objs.size) us) (EP G.X ((s1.heap.objs.size, PySem.W.methodObj (.ref f) (.ref (G.ca c))) :: pins) σ Q) G.X.xe s3 :=
      wpAny_call (PySem.W.method_call (pin_at I3) (hc.code tk hr rfl w1 (.cons (.cls c) r1) hl p1 I3 (.cons rfl rv)))
    exact thn z fun _ _ y => unpinE y
/-- x(..), x a name that holds an own class -/
def eCls (tab : Tab) (i : Nat) (a : AM) : EM := fun env st => match env[i]? with
  | some (.sh (.cls c)) => (match tab.lookup c with
    | some g => (a env st).bind g
    | none => .bad)
  | _ => .bad
theorem re_cls {i : Nat} {x : Str} (ht : ∀ c g, tab.lookup c = some g → CallD G (.ref (G.ca c)) g ∧ PySem.W.keepIn G.X.K (.ref (G.ca c)) = true) (hx : PE G.X (.Name x p) (tVar i)) (ha : RA G (e :: es) aa)
    (he : starEach (e :: es) G.X.env = (false, eval e G.X.env) :: starEach es G.X.env := by rfl) (hpl : (backTo pos (starEach es G.X.env)).any (·.1) = false := by rfl) : RE G (.Call (.Name x p) (e :: es) [] pos) (eCls tab i aa) := by
  intro σ W env st Q w re hp pins s I
  unfold eCls at hp
  cases h : env[i]? with
  | none => rw [h] at hp; exact hp.elim
  | some sl =>
    rw [h] at hp
    cases sl with
    | sh d =>
      cases d with
      | cls c =>
        dsimp only at hp
        cases hg : tab.lookup c with
        | none => rw [hg] at hp; exact hp.elim
        | some g =>
          rw [hg] at hp
          obtain ⟨hc, hk⟩ := ht c g hg
          obtain ⟨v, h1, h2⟩ := re.sh i _ h
          cases h2
          refine wpAny_Call_Name_kw (thn (hx.run pins s σ W.h (fun v H1 => v = .ref (G.ca c) ∧ H1 = W.h) I ⟨_, h1, rfl, rfl⟩) fun u s1 hu => ?_)
          obtain ⟨y, H1, I1, r1, rfl, rfl⟩ := hu
          cases r1
          refine PySem.W.callWith_K (h₀ := G.X.base) I.ok.mod.kin hk (thn (ha σ W env st (fun vs H => QC G (.ref (G.ca c)) σ vs H Q) w re (bindAE hp fun ds s2 vs W1 e1 w1 r1 p1 => hc σ W1 s2 vs ds Q w1 r1 p1) pos pins s1 I1) fun us s2 hu => ?_) he hpl
          obtain ⟨vs, H2, I2, r2, q2⟩ := hu
          exact ⟨I2.kIn, q2 pins s2 us I2 r2⟩
      | _ => exact hp.elim
    | no => exact hp.elim
    | oL d => exact hp.elim
    | oI c d => exact hp.elim
    | ex c d => exact hp.elim
end
end Mi

/-! MiIter: x[::-1]; walks over an own class's __iter__ that gives iter(self.f). -/
namespace Mi
open PySem PySem.Spec PyProof.Rows L2
section
variable {G : Gx} {k : Nat} {tab : Tab} {tg a b e o : Expr} {es : List Expr} {ma mb : EM} {aa : AM} {p pos apos cpos : Pos}
def revS (z : Str) : Str := ⟨((Builtin.Str.strSliceIndices none none (-1) z.length).filterMap (z.cps[·]?)).toArray⟩
def revD : D → M D := fun x st => match x with
  | .str z => if (revS z).length ≤ LIM then .ok (.str (revS z)) st else .bad
  | x => (match seqOf x st with
    | some xs => .ok (.lst xs.reverse) st
    | none => .bad)
theorem re_rev {j : Nat} {p1 p2 p3 : Pos} (ha : RE G e ma) : RE G (.Subscript e (.Slice none none (some (.UnaryOp .USub (.Constant (.int 1) j p1) p2)) p3) pos) (eUn revD ma) := by
  intro σ W env st Q w re hp pins s I
  have hst : PO G.X (some (.UnaryOp .USub (.Constant (.int 1) j p1) p2)) (tPart (tUn (rU fun i => .int (-i)) (tC (.int 1)))) := po_some (pe_un un_neg pe_int)
  refine Subscript_ (thn (ha σ W env st (fun x H => ∃ (W1 : Wd) (s1 : Sto) (d : D), H = W1.h ∧ WOk G.X.K G.ca W1 s1 ∧ Rep G.X.K G.ca W1 x d ∧ Post G W1 σ (revD d s1) Q) w re (bindEE hp fun d s1 x W1 e1 w1 r1 q1 => ⟨W1, s1, d, rfl, w1, r1, q1⟩) pins s I) fun v s1 hv => ?_)
  obtain ⟨x, H1, I1, r1, W1, st1, d, rfl, w1, rd, q1⟩ := hv
  refine wpAny_Slice (thn (po_none.run pins s1 σ W1.h (fun o H2 => o = none ∧ H2 = W1.h) I1 ⟨rfl, rfl⟩) fun vl s2 hvl => ?_)
  obtain ⟨l, H2, I2, pl, el, e2⟩ := hvl
  subst el e2
  refine thn (po_none.run pins s2 σ W1.h (fun o H3 => o = none ∧ H3 = W1.h) I2 ⟨rfl, rfl⟩) fun vu s3 hvu => ?_
  obtain ⟨u, H3, I3, pu, eu, e3⟩ := hvu
  subst eu e3
  refine thn (hst.run pins s3 σ W1.h (fun o H4 => o = some (-1) ∧ H4 = W1.h) I3 ⟨1, rfl, -1, rfl, rfl, rfl⟩) fun vs s4 hvs => ?_
  obtain ⟨so, H4, I4, ps, eo, e4⟩ := hvs
  subst eo e4
  have I5 : Inv G.X pins σ W1.h { s4 with heap := s4.heap.push { cls := .type "slice", data := .fields #[vl, vu, vs] } } := I4.kept (t' := s4.toks) fun b ob q => Heap.get?_push_of_some _ q
  show wpAny (model G.X.prog G.X.w) G.X.A (subscriptTail e (.Slice none none (some (.UnaryOp .USub (.Constant (.int 1) j p1) p2)) p3) v (.ref s4.heap.objs.size)) (EP G.X pins σ Q) G.X.xe { s4 with heap := s4.heap.push { cls := .type "slice", data := .fields #[vl, vu, vs] } }
  unfold revD at q1
  split at q1
  · rename_i z
    cases rd
    obtain ⟨t, rfl⟩ := r1
    by_cases hz : (revS z).length ≤ LIM
    · rw [if_pos hz] at q1
      refine tail_any (T := "str") (ops := [.str z t, .ref s4.heap.objs.size]) (typeIs_str _ _ _) (PySem.F.slot_str_getitem.lookup) ?_ (by with_unfolding_all rfl)
      obtain ⟨l0, rfl, el⟩ := IsPart.raw pl
      obtain ⟨u0, rfl, eu⟩ := IsPart.raw pu
      obtain ⟨t0, rfl, et⟩ := IsPart.raw ps
      cases l0 with
      | some _ => cases el
      | none =>
        cases u0 with
        | some _ => cases eu
        | none =>
          cases t0 with
          | none => cases et
          | some tt =>
            obtain ⟨ti, tk⟩ := tt
            have eti : ti = -1 := Option.some.inj et
            subst eti
            refine wpAny_getItem_str_slice (l := none) (u := none) (st := some (-1, tk)) ⟨_, Heap.get?_push_size _ rfl, rfl, rfl⟩ rfl ?_
            refine ⟨lim_le hz, .str (revS z), W1.h, I5.tok _, ⟨_, rfl⟩, q1 _ W1 (Ext.refl W1) w1 (.str _)⟩
    · rw [if_neg hz] at q1; exact q1.elim
  · cases hs : seqOf d st1 with
    | none => rw [hs] at q1; exact q1.elim
    | some xs =>
      rw [hs] at q1
      obtain ⟨q, ys, rfl, sq, r2⟩ := seqOf_at w1 rd hs
      cases r1
      obtain ⟨its, r, ht, hz⟩ := I5.list sq
      have hlen := r.length
      refine tail_any (ops := [.ref q, .ref s4.heap.objs.size]) ht.isList.typeIs (PySem.slot_list_getitem.lookup) ?_ (by with_unfolding_all rfl)
      refine wpAny_getItem_list_slice ht.isList (Heap.IsSliceOf.new _ vl vu vs) pl pu ps (by decide) ?_ (by rw [List.size_toArray]; omega)
      rw [PySem.W.krv_pick]
      have hn := I5.hok.fresh (Nat.le_refl _)
      have x1 := W1.lay_ext (o := .lst ys.reverse) hn
      exact ⟨.ref _, _, I5.laid (t' := s4.toks) (o := .lst ys.reverse) (fun b ob q => Heap.get?_push_of_some _ q) (Nat.le_refl _) ⟨by rw [List.length_reverse]; exact hz, _, 0, r.reverse, Heap.get?_push_size _ rfl⟩, rfl,
        q1 (.ref _) (W1.lay _ (.lst ys.reverse) hn) x1 (w1.lay hn) (.lst (W1.lay_nav hn) upd_same (r2.reverse.mono x1))⟩
end

/-! ### a def's body run from one entry -/
abbrev FD (K : PySem.W.Frag) (x qual : Str) (st : Stmt) (dvs : List V) (f : Addr) (fd : FuncData) : Prop := FunD K x qual (defArgs st) (defBody st) (defScope st) dvs [] f fd
theorem fn_run {CX : CXT} {P : Program} {w : World} {K : PySem.W.Frag} {mg : Str → Option Value} {base : Heap} {k : Nat} {f : Addr} {x qual : Str} {st : Stmt} {fd : FuncData} {N ps : List Str} {A : Around} {outer : List Env} {s : Shared} {H : Hp} {args : Args} {us : List Value} {vs : List V} {Q : VK} {E : XK}
    (F : FD K x qual st [] f fd) (S : FnScope N ps (defScope st)) (hr : Room (k + 1) A) (e0 : Env0 P w K mg base A outer s H) (hb : BindsTo s fd args (ps.zip us)) (r : Vals vs us) (hl : vs.length = ps.length)
    (hbody : ∀ cdv : Value, Room k (A.deeper (envOfC qual (defScope st) s.heap.objs.size f cdv)) → ∃ t, PSs (cxOf CX P w K mg base N qual (defScope st) f cdv A outer s H E) (defBody st) t ∧ t { nx := fun _ H' => Q .non H', rt := Q } (L2.start N vs) H) :
    codeAny (model P w) A (.call (.ref f) args) (CR CX outer P w H s Q E) s := by
  obtain ⟨oc, od, dV, kV, doc, pm, an, cdv, ct, osl, rfl, lk, hcd, _, _⟩ := F.ex
  have stay : ∀ b o, base.get? b = some o → s.heap.get? b = some o := fun b o z => (e0.bs b o z).1
  have KX : K.In s.heap := e0.mod.kin.keeps stay
  have kinds : ∀ y ∈ ps.zip us, (defScope st).names.lookup y.1 = some .local ∨ ((defScope st).names.lookup y.1 = some .cell ∧ ((cellsFrom (s.heap.objs.size + 1) (defScope st).names []).lookup y.1).isSome = true) := by
    rintro ⟨n, v⟩ hy
    rcases S.par n (List.of_mem_zip hy).1 with z | z
    · exact .inl z
    · exact .inr ⟨z, PySem.W.cellsFrom_some _ _ _ (.inl z)⟩
  refine codeAny_call_function hr.depth (KX _ _ lk) rfl S.co S.gen rfl (PySem.W.codeRec_of KX hcd) (hb _ _ _ _ ?_)
  refine wpAny_newFunctionEnv_cells S.kind kinds fun env he s1 y => ?_
  subst he
  refine ⟨(e0.mod.nolimit.keeps stay).keeps y.toInCall.keep, codeAny_func ?_⟩
  obtain ⟨t, ht, hq⟩ := hbody cdv (hr.deeper _)
  have I := inv_start (CX := CX) (E := E) S hr.hd e0 hl r y
  refine wpAny_mono (ht.run [] s1 _ H _ I hq) (fun fl s' hs => ?_) fun e s' hs => hs
  cases fl with
  | ret u =>
    obtain ⟨v, σ', H', J, rv, q⟩ := hs
    exact ⟨v, H', J.os, J.bare, J.base, J.hok, rv, q⟩
  | next =>
    obtain ⟨σ', H', J, q⟩ := hs
    exact ⟨.non, H', J.os, J.bare, J.base, J.hok, rfl, q⟩
  | brk => obtain ⟨_, _, _, q⟩ := hs; exact q.elim
  | cont => obtain ⟨_, _, _, q⟩ := hs; exact q.elim

/-! ### iter(text) -/
/-- a text's iterator, at its start -/
def ItS (z : Str) (t : Tok) (ty : String) (it : Addr) : HO := .ext fun h => h.IsStrIter it ty z t 0
theorem call_iterS {prog : Program} {w : World} {A : Around} {E : Value → Shared → Prop} {s : Shared} {z : Str} {t : Tok} {Q : Value → Shared → Prop} (h : wpAny (model prog w) A.in1 (pyIter (.str z t)) Q E s) : wpAny (model prog w) A (call (.builtin "iter") [.str z t]) Q E s := by
  refine Calls.call_function_entry (by decide +kernel) (by decide +kernel) PySem.W.kdk_entry_iter (PySem.W.kdk_args_iter _) ?_
  unfold Builtin.«iter»
  refine wpAny_bind (m := someArgs "iter" 1 2 _) (wpAny_of_eq (a := [Value.str z t]) (by first | rfl | kernel_rfl!) ?_)
  show wpAny _ _ (pyIter (.str z t) >>= _) _ _ _
  exact wpAny_bind (thn h fun _ _ q => wpAny_pure ⟨_, rfl, q⟩)
/-- what an iterator over v is at its birth -/
def ItAt (K : PySem.W.Frag) (H : Hp) (v : V) (it : Addr) (o : HO) : Prop := (∃ z t ty, v = .str z ∧ (ty = "str_ascii_iterator" ∨ ty = "str_iterator") ∧ o = ItS z t ty it) ∨ ∃ l xs, v = .ref l ∧ SqL K H l xs ∧ o = ItO l it 0
theorem call_iterV {X : Cx} : CallR X (.builtin "iter") (fun xs H Q => ∃ v, xs = [v] ∧ ((∃ z, v = .str z) ∨ ∃ l ys, v = .ref l ∧ SqL X.K H l ys) ∧ ∀ it o, H it = none → X.s_0.heap.objs.size ≤ it → ItAt X.K H v it o → Q (.ref it) (upd H it o)) := by
  intro pins s σ H xs us Q I r h
  obtain ⟨v, rfl, hv, q⟩ := h
  obtain ⟨u, rfl, ru⟩ := vals1 r
  rcases hv with ⟨z, rfl⟩ | ⟨l, ys, rfl, hq⟩
  · obtain ⟨t, rfl⟩ := ru
    refine call_iterS ?_
    cases hall : z.cps.all (· < 128)
    · refine wpAny_pyIter_wide hall ?_
      have st : (s.heap.push { cls := .type "str_iterator", data := .fields #[.str z t, .int 0 0] }).IsStrIter s.heap.objs.size "str_iterator" z t 0 := ⟨_, Heap.get?_push_size _ rfl, rfl, rfl⟩
      exact ⟨.ref s.heap.objs.size, _, I.laid (t' := s.toks) (o := ItS z t "str_iterator" s.heap.objs.size) (fun b u e => Heap.get?_push_of_some _ e) (Nat.le_refl _) ⟨st, ⟨_, Heap.get?_push_size _ rfl⟩, fun h1 h2 a kk => by
        obtain ⟨o, g1, g2, g3⟩ := a
        exact ⟨o, kk o g1, g2, g3⟩⟩, rfl, q _ _ (I.hok.fresh (Nat.le_refl _)) I.sz (.inl ⟨z, t, _, rfl, .inr rfl, rfl⟩)⟩
    · refine wpAny_pyIter_ascii hall ?_
      have st : (s.heap.push { cls := .type "str_ascii_iterator", data := .fields #[.str z t, .int 0 0] }).IsStrIter s.heap.objs.size "str_ascii_iterator" z t 0 := ⟨_, Heap.get?_push_size _ rfl, rfl, rfl⟩
      exact ⟨.ref s.heap.objs.size, _, I.laid (t' := s.toks) (o := ItS z t "str_ascii_iterator" s.heap.objs.size) (fun b u e => Heap.get?_push_of_some _ e) (Nat.le_refl _) ⟨st, ⟨_, Heap.get?_push_size _ rfl⟩, fun h1 h2 a kk => by
        obtain ⟨o, g1, g2, g3⟩ := a
        exact ⟨o, kk o g1, g2, g3⟩⟩, rfl, q _ _ (I.hok.fresh (Nat.le_refl _)) I.sz (.inl ⟨z, t, _, rfl, .inl rfl, rfl⟩)⟩
  · cases ru
    obtain ⟨its, rv, pl, hz⟩ := I.list hq
    refine GNX.call_iter pl.isList ?_
    exact ⟨.ref s.heap.objs.size, _, I.laid (t' := s.toks) (fun b u e => Heap.get?_push_of_some _ e) (Nat.le_refl _) (itO_ok (Heap.get?_push_size _ rfl)), rfl, q _ _ (I.hok.fresh (Nat.le_refl _)) I.sz (.inr ⟨l, ys, rfl, hq, rfl⟩)⟩
end Mi

/-! MiIter2: for x in o, o of an own class whose __iter__ gives iter(self.f). -/
namespace Mi
open PySem PySem.Spec PyProof.Rows L2 ItX
/-- the reading of such an __iter__'s body -/
def tIterF (K : PySem.W.Frag) (n : Nat) (fld : Str) : TS := tRet (tCB (fun xs H Q => ∃ v, xs = [v] ∧ ((∃ z, v = .str z) ∨ ∃ l ys, v = .ref l ∧ SqL K H l ys) ∧ ∀ it o, H it = none → n ≤ it → ItAt K H v it o → Q (.ref it) (upd H it o)) (tCons (tFld K (tVar 0) fld) tNil))
structure OwnIt (G : Gx) (c : Nat) (fld : Str) : Prop where
  cl : Cls G.X.K (G.ca c)
  na : NoAttr G.X.K (G.ca c) fld
  it : ∃ (f : Addr) (qual : Str) (st : Stmt) (fd : FuncData), FD G.X.K "__iter__" qual st [] f fd ∧ FnScope ["self"] ["self"] (defScope st) ∧ Binds G.X.K fd ["self"] [] ∧ PySem.W.findIn G.X.K (.ref (G.ca c)) "__iter__" = some (some (.ref f)) ∧ PySem.W.isFn G.X.K (.ref f) = true ∧
    ∀ cdv A outer s H E, PSs (cxOf (L2.CX G.X.prog G.X.w) G.X.prog G.X.w G.X.K G.X.mg G.X.base ["self"] qual (defScope st) f cdv A outer s H E) (defBody st) (tIterF G.X.K s.heap.objs.size fld)
def iOwn (tab : List (Nat × Str)) (a : EM) : AM := fun env st => (a env st).bind fun x s => match x with
  | .ins c fs => (match tab.lookup c with
    | some f => (match fs.lookup f with
      | some d => (match d with
        | .lst ds => .ok ds s
        | .fix ds => .ok ds s
        | .str z => .ok (signs z) s
        | _ => .bad)
      | none => .bad)
    | none => .bad)
  | x => (match walkD x with
    | some ds => .ok ds s
    | none => .bad)
section
variable {G : Gx} {tg a : Expr} {ma : EM} {tab : List (Nat × Str)}
theorem ri_own (tk : Takes G.X G.E) (hr : Room 2 G.X.A) (ht : ∀ c f, tab.lookup c = some f → OwnIt G c f) (ha : RE G a ma) : RI G tg a (iOwn tab ma) := by
  intro σ W env st R w re hp pins s I
  have key : QE G a σ W.h fun x H => ∃ W1 : Wd, H = W1.h ∧ ((∃ q xs, x = .ref q ∧ SqL G.X.K H q xs ∧ R (Itl G.X.K q) H) ∨ (∃ q xs, x = .ref q ∧ SqT G.X.K H q xs ∧ R (Itt G.X.K q) H) ∨ (∃ z, x = .str z ∧ R (Its z) H) ∨
      ∃ (c : Nat) (fld : Str) (q dx : Addr) (ws : List (Str × V)) (v : V), OwnIt G c fld ∧ x = .ref q ∧ H q = some (.ins (G.ca c) dx ws) ∧ ws.lookup fld = some v ∧ ((∃ z, v = .str z ∧ R (Its z) H) ∨ ∃ l ys, v = .ref l ∧ SqL G.X.K H l ys ∧ R (Itl G.X.K l) H)) := by
    refine ha σ W env st _ w re ?_
    unfold iOwn at hp
    cases hm : ma env st with
    | bad => rw [hm] at hp; exact hp
    | exc c fs s1 => rw [hm] at hp; exact hp
    | ok d s1 =>
      rw [hm] at hp
      intro v W1 e1 w1 r1
      refine ⟨W1, rfl, ?_⟩
      cases r1 with
      | lst n h r => exact .inl ⟨_, _, rfl, .inl (.inl h), hp _ W1 e1 w1 (jok_list (fun W' kp => .inl (.inl (kp.keep _ _ n h))) r)⟩
      | fix n h r => exact .inl ⟨_, _, rfl, .inl h, hp _ W1 e1 w1 (jok_list (fun W' kp => .inl (kp.kw.rd n h).2) r)⟩
      | fixK h r => exact .inl ⟨_, _, rfl, h.sq, hp _ W1 e1 w1 (jok_list (fun W' kp => h.sq) r)⟩
      | tup n h r => exact .inr (.inl ⟨_, _, rfl, .inl h, hp _ W1 e1 w1 (jok_tup (fun W' kp => .inl (kp.kw.rd n h).2) r)⟩)
      | tupK h r => exact .inr (.inl ⟨_, _, rfl, h.sq, hp _ W1 e1 w1 (jok_tup (fun W' kp => h.sq) r)⟩)
      | str z => exact .inr (.inr (.inl ⟨z, rfl, hp _ W1 e1 w1 (jok_str z)⟩))
      | ins n h rf =>
        rename_i q dx c ws fs
        have hp : PostI G W σ (match tab.lookup c with
          | some f => (match fs.lookup f with
            | some d => (match d with
              | .lst ds => .ok ds s1
              | .fix ds => .ok ds s1
              | .str z => .ok (signs z) s1
              | _ => .bad)
            | none => .bad)
          | none => .bad) R := hp
        cases hc : tab.lookup c with
        | none => rw [hc] at hp; exact hp.elim
        | some f =>
          rw [hc] at hp
          dsimp only at hp
          cases hl : fs.lookup f with
          | none => rw [hl] at hp; exact hp.elim
          | some d =>
            rw [hl] at hp
            obtain ⟨v, h1, h2⟩ := rf.look hl
            refine .inr (.inr (.inr ⟨c, f, q, dx, ws, v, ht c f hc, rfl, h, h1, ?_⟩))
            cases h2 with
            | lst n h r => exact .inr ⟨_, _, rfl, .inl (.inl h), hp _ W1 e1 w1 (jok_list (fun W' kp => .inl (.inl (kp.keep _ _ n h))) r)⟩
            | fix n h r => exact .inr ⟨_, _, rfl, .inl h, hp _ W1 e1 w1 (jok_list (fun W' kp => .inl (kp.kw.rd n h).2) r)⟩
            | fixK h r => exact .inr ⟨_, _, rfl, h.sq, hp _ W1 e1 w1 (jok_list (fun W' kp => h.sq) r)⟩
            | str z => exact .inl ⟨z, rfl, hp _ W1 e1 w1 (jok_str z)⟩
            | _ => exact hp.elim
      | _ => exact hp.elim
  refine thn (key pins s I) fun u s1 hu => ?_
  obtain ⟨x, H1, I1, r1, W1, rfl, q1⟩ := hu
  rcases q1 with ⟨q, xs, rfl, hs, hR⟩ | ⟨q, xs, rfl, hs, hR⟩ | ⟨z, rfl, hR⟩ | ⟨c, fld, q, dx, ws, v, O, rfl, hq, hlk, hv⟩
  · cases r1
    obtain ⟨its, r, pl, hz⟩ := I1.list hs
    exact wpAny_pyIter_list pl.isList (pi_one (tk := s1.toks) I1 _ (turn_list q _) ⟨_, Heap.get?_push_size _ rfl, rfl, rfl⟩ hR)
  · cases r1
    obtain ⟨its, r, pl, hz⟩ := I1.tuple hs
    exact wpAny_pyIter_tuple (show s1.heap.IsTuple q its.toArray from pl) (pi_one (tk := s1.toks) I1 _ (turn_tuple q _) ⟨_, Heap.get?_push_size _ rfl, rfl, rfl⟩ hR)
  · obtain ⟨t, rfl⟩ := r1
    cases hall : z.cps.all (· < 128)
    · exact wpAny_pyIter_wide hall (pi_one (tk := s1.toks) I1 _ (turn_str _ z t "str_iterator" (.inr rfl)) ⟨_, Heap.get?_push_size _ rfl, rfl, rfl⟩ hR)
    · exact wpAny_pyIter_ascii hall (pi_one (tk := s1.toks) I1 _ (turn_str _ z t "str_ascii_iterator" (.inl rfl)) ⟨_, Heap.get?_push_size _ rfl, rfl, rfl⟩ hR)
  · cases r1
    obtain ⟨f, qual, stI, fd, F, S, bd, f1, f2, der⟩ := O.it
    obtain ⟨ox, od, J⟩ := inst_at I1 hq
    obtain ⟨m, hF⟩ := I1.fr
    refine PySem.W.owit_iter hF I1.ok.mod.kin J f1 f2 ?_
    have hsq : (∃ z, v = .str z) ∨ ∃ l ys, v = .ref l ∧ SqL G.X.K W1.h l ys := by
      rcases hv with ⟨z, e, _⟩ | ⟨l, ys, e, h2, _⟩
      · exact .inl ⟨z, e⟩
      · exact .inr ⟨l, ys, e, h2⟩
    have b1 := bd s1 [.ref q] I1.kIn rfl
    have run : codeAny (model G.X.prog G.X.w) G.X.A (.call (.ref f) ⟨[.ref q], []⟩) (CR (L2.CX G.X.prog G.X.w) G.X.stack G.X.prog G.X.w W1.h s1 (fun r H' => ∃ it o, r = .ref it ∧ W1.h it = none ∧ s1.heap.objs.size ≤ it ∧ ItAt G.X.K W1.h v it o ∧ H' = upd W1.h it o) E0) s1 := by
      refine fn_run (vs := [.ref q]) (us := [.ref q]) F S hr I1.env0 b1 (.cons rfl .nil) rfl fun cdv hr2 => ⟨_, der cdv _ _ _ _ _, ?_⟩
      refine ⟨.ref q, rfl, q, _, dx, ws, v, rfl, hq, O.cl, O.na, hlk, v, rfl, hsq, fun it o h1 h2 h3 => ⟨it, o, rfl, h1, h2, h3, rfl⟩⟩
    refine wpAny_call (codeAny_mono run fun res s' hz => ?_)
    cases res with
    | error ex =>
      exfalso
      obtain ⟨_, _, _, _, _, _, _, _, _, _, _, _, z⟩ := hz
      exact z
    | ok fl =>
      cases fl with
      | next => exact hz.elim
      | brk => exact hz.elim
      | cont => exact hz.elim
      | ret u =>
        obtain ⟨rv, H', I', rr, it, o, rfl, hn, hge, hat, rfl⟩ := I1.after hz
        cases rr
        have hsz : G.X.s_0.heap.objs.size ≤ it := Nat.le_trans I1.sz hge
        unfold PySem.W.OwitIt
        rcases hat with ⟨z, t, ty, rfl, hty, rfl⟩ | ⟨l, ys, rfl, hl, rfl⟩
        · have hst : s'.heap.IsStrIter it ty z t 0 := (I'.hok it _ upd_same).1
          have hT : s'.TypeIs (.ref it) ty := by
            obtain ⟨oo, g1, g2, _⟩ := hst
            exact ⟨oo, g1, g2⟩
          have hR : R (Its z) W1.h := by
            rcases hv with ⟨z', e, hR⟩ | ⟨l, ys, e, _⟩
            · cases e; exact hR
            · cases e
          have fin : PIE G.X pins σ tg R (.ref it) s' := by
            have J0 := inv_drop I' upd_same
            rw [dropH_upd hn] at J0
            refine ⟨it, [it], _, Its z, W1.h, rfl, J0, turn_str it z t ty hty, hst, fun b hb => ?_, hR⟩
            have eb : b = it := by simpa using hb
            subst eb
            have fp := inv_fp I' upd_same hsz
            rw [dropH_upd hn] at fp
            exact fp
          rcases hty with e | e
          · subst e; exact wpAny_specialOf hT PySem.F.slot_str_ascii_iterator_next.lookup fin
          · subst e; exact wpAny_specialOf hT PySem.F.slot_str_iterator_next.lookup fin
        · have hst : s'.heap.get? it = some (GNX.itObj l 0) := (I'.hok it _ upd_same).1
          have hT : s'.TypeIs (.ref it) "list_iterator" := ⟨_, hst, rfl⟩
          have hR : R (Itl G.X.K l) W1.h := by
            rcases hv with ⟨z', e, hR⟩ | ⟨l', ys', e, _, hR⟩
            · cases e
            · cases e; exact hR
          have fin : PIE G.X pins σ tg R (.ref it) s' := by
            have J0 := inv_drop I' upd_same
            rw [dropH_upd hn] at J0
            refine ⟨it, [it], _, Itl G.X.K l, W1.h, rfl, J0, turn_list l it, ⟨_, hst, rfl, rfl⟩, fun b hb => ?_, hR⟩
            have eb : b = it := by simpa using hb
            subst eb
            have fp := inv_fp I' upd_same hsz
            rw [dropH_upd hn] at fp
            exact fp
          exact wpAny_specialOf hT PySem.slot_listiter_next.lookup fin
end
end Mi

/-! MiEnd: defs with defaults, exceptions' __init__, the end of a law. -/
namespace Mi
open PySem PySem.Spec PyProof.Rows L2
section
variable {P : Program} {w : World} {K : PySem.W.Frag} {mg : Str → Option Value} {base : Heap} {ca : Nat → Addr} {x qual : Str} {st : Stmt} {dvs : List V} {f : Addr} {fd : FuncData} {N ps : List Str} {k c : Nat} {b : SM}
theorem fd_mk {oc : Value} {od an : Option Addr} {osl : Array (Option Value)} {kV doc pm cdv ct : Value} (l : K.lookup f = some ⟨oc, od, .func (PySem.W.fnOf x qual (defArgs st) (defBody st) (defScope st) .none kV doc pm an cdv ct), osl⟩)
    (c : PySem.W.codeIn K cdv qual = true) (k : PySem.W.keepIn K (.ref f) = true) : FD K x qual st [] f (PySem.W.fnOf x qual (defArgs st) (defBody st) (defScope st) .none kV doc pm an cdv ct) := ⟨⟨oc, od, .none, kV, doc, pm, an, cdv, ct, osl, rfl, l, c, .inl ⟨rfl, rfl⟩, .inl rfl⟩, k⟩
theorem fd_mkD {oc : Value} {od an : Option Addr} {osl : Array (Option Value)} {kV doc pm cdv ct : Value} {T : Addr} {o : Obj} {its : List Value} {n : Nat} (l : K.lookup f = some ⟨oc, od, .func (PySem.W.fnOf x qual (defArgs st) (defBody st) (defScope st) (.ref T) kV doc pm an cdv ct), osl⟩)
    (c : PySem.W.codeIn K cdv qual = true) (k : PySem.W.keepIn K (.ref f) = true) (lT : K.lookup T = some o) (oT : o.data = .seq its.toArray n) (hne : dvs ≠ []) (hv : Vals dvs its) : FD K x qual st dvs f (PySem.W.fnOf x qual (defArgs st) (defBody st) (defScope st) (.ref T) kV doc pm an cdv ct) :=
  ⟨⟨oc, od, .ref T, kV, doc, pm, an, cdv, ct, osl, rfl, l, c, .inr ⟨hne, T, o, its, n, rfl, lT, oT, hv⟩, .inl rfl⟩, k⟩
theorem FD.binds0 (F : FD K x qual st [] f fd) (h : ∀ (kV doc pm : Value) (an : Option Addr) (cdv ct : Value) (us : List Value), us.length = ps.length → bindArgs (PySem.W.fnOf x qual (defArgs st) (defBody st) (defScope st) .none kV doc pm an cdv ct) ⟨us, []⟩ = pure (ps.zip us)) : Binds K fd ps [] := by
  obtain ⟨oc, od, dV, kV, doc, pm, an, cdv, ct, osl, rfl, lk, hcd, hD, _⟩ := F.ex
  rcases hD with ⟨_, rfl⟩ | ⟨e, _⟩
  · exact .all (h kV doc pm an cdv ct)
  · exact absurd rfl e
theorem fn_okD (F : FD K x qual st dvs f fd) (S : FnScope N ps (defScope st))
    (hb : ∀ (cdv : Value) (A : Around) (outer : List Env) (s : Shared) (H : Hp) (E : XK), Room k (A.deeper (envOfC qual (defScope st) s.heap.objs.size f cdv)) → RSs (gx P w K mg base ca N qual (defScope st) f cdv A outer s H E) (defBody st) b) :
    FnOk P w K mg base (L2.CX P w) (k + 1) f fd ps (spM K ca ps.length (runBody N.length b)) := by
  refine FunD.ok F S (fun vs H Q E h => ?_) fun cdv A outer s H vs Q E hr h => ⟨QSs (gx P w K mg base ca N qual (defScope st) f cdv A outer s H E) (defBody st), pss_q (G := gx P w K mg base ca N qual (defScope st) f cdv A outer s H E), ?_⟩
  · obtain ⟨W, sto, ds, _, _, r, hl, _⟩ := h
    rw [r.length, hl]
  · obtain ⟨W, sto, ds, rfl, wk, r, hl, p⟩ := h
    refine hb cdv A outer s W.h E hr (L2.start N vs) W (env0 N.length ds) sto _ wk (repE_start r) ?_
    have no : ∀ i p, ¬ Own (L2.start N vs) (env0 N.length ds) i p := fun i p => env0_own
    unfold runBody at p
    cases hm : b (env0 N.length ds) sto with
    | nx env' st' => rw [hm] at p; exact fun σ' W' x w' _ => p .non W' (x.ext no) w' .non
    | rt d st' => rw [hm] at p; exact fun v W' x w' r' => p v W' (x.ext no) w' r'
    | bk env' st' => rw [hm] at p; exact p.elim
    | ct env' st' => rw [hm] at p; exact p.elim
    | exc env' c fs st' => rw [hm] at p; exact fun σ' dd W' x w' _ rx => p dd W' (x.ext no) w' rx
    | bad => rw [hm] at p; exact p
/-- an __init__ whose self is owned, with defaults -/
theorem init_okD (F : FD K x qual st dvs f fd) (S : FnScope N ps (defScope st)) (hps : 1 ≤ ps.length) (hN : ps.length ≤ N.length)
    (hb : ∀ (cdv : Value) (A : Around) (outer : List Env) (s : Shared) (H : Hp) (E : XK), Room k (A.deeper (envOfC qual (defScope st) s.heap.objs.size f cdv)) → RSs (gx P w K mg base ca N qual (defScope st) f cdv A outer s H E) (defBody st) b) :
    FnOk P w K mg base (L2.CX P w) (k + 1) f fd ps (spI K ca c (ps.length - 1) (runInit c N.length b)) := by
  obtain ⟨oc, od, dV, kV, doc, pm, an, cdv, ct, osl, rfl, lk, hcd, _, _⟩ := F.ex
  refine fn_of lk hcd S (fun vs H Q E h => ?_) fun A outer s H vs Q E hr h => ⟨QSs (gx P w K mg base ca N qual (defScope st) f cdv A outer s H E) (defBody st), pss_q (G := gx P w K mg base ca N qual (defScope st) f cdv A outer s H E), ?_⟩
  · obtain ⟨x, vs', W, sto, ds, dx, rfl, _, _, _, _, _, r, hl, _⟩ := h
    rw [List.length_cons, r.length, hl]
    omega
  · exact init_body hps hN (hb cdv A outer s H E hr) h
end

/-! ### the end -/
/-- the law's promise, whatever the classes' addresses -/
def spLaw (m : List D → M D) (K : PySem.W.Frag) : Sp := fun vs H Q E => vs.length = 1 ∧ ∀ ca, spM K ca 1 m vs H Q E
theorem law_fn {P : Program} {w : World} {K : PySem.W.Frag} {mg : Str → Option Value} {base : Heap} {ca : Nat → Addr} {k : Nat} {f : Addr} {fd : FuncData} {ps : List Str} {m : List D → M D} (F : FnOk P w K mg base (L2.CX P w) k f fd ps (spM K ca 1 m)) : FnOk P w K mg base (L2.CX P w) k f fd ps (spLaw m K) :=
  F.imp fun vs H Q E h => h.2 ca
theorem reps_ints {K : PySem.W.Frag} {ca : Nat → Addr} {W : Wd} : ∀ ns : List Int, Reps K ca W (ns.map V.int) (ns.map D.int)
  | [] => .nil
  | n :: ns => .cons (.int n) (reps_ints ns)
theorem law_sp {m : List D → M D} {K : PySem.W.Frag} {H : Hp} {a : Addr} {ns : List Int} (hm : ∃ st, m [.fix (ns.map D.int)] [] = .ok (.bl true) st) (hS : SqL K H a (ns.map V.int)) : spLaw m K [.ref a] H (fun v _ => v = .bl true) fun _ _ _ => False := by
  refine ⟨rfl, fun ca => ?_⟩
  obtain ⟨st, hm⟩ := hm
  refine ⟨⟨fun _ => False, [], H, fun _ h => h.elim, fun _ h => by cases h⟩, [], [.fix (ns.map D.int)], rfl, ⟨List.nodup_nil, rfl, fun n p c h => by simp at h⟩, .cons ?_ .nil, rfl, ?_⟩
  · rcases hS with h | h
    · exact .fix (fun z => z) h (reps_ints ns)
    · exact .fixK (.inr h) (reps_ints ns)
  · rw [hm]
    intro v W' _ _ r
    cases r
    rfl
theorem law_walk {l : PySem.W.OpenLaw} {q : Program} {loose : List Str} {XP : (Str → Option Value) → Heap → Prop} {YP : World → Heap → Prop} {d : DefRec} {K : Params → PySem.W.Frag} {k : Nat} {x : Str} {m : List D → M D} (hn : l.most = some 63) (hdf : d.params.defaults = []) (hr : Room k callerA)
    (hm : ∀ ns : List Int, ns.length ≤ 63 → ∃ st, m [.fix (ns.map D.int)] [] = .ok (.bl true) st)
    (hY : ∀ (w : World) (h : Heap), YP w h → (K w.params).In h)
    (F : ∀ (w : World) (mg : Str → Option Value) (fa : Addr) (h : Heap), (K w.params).In h → h.Ns mainGlobals mg → mg d.name = some (.ref fa) →
      ∃ fd : FuncData, (∀ (s : Shared) (u : Value), BindsTo s fd ⟨[u], []⟩ [(x, u)]) ∧ ∀ base : Heap, (K w.params).In base → base.Ns mainGlobals mg → FnOk l.prog w (K w.params) mg base (L2.CX l.prog w) k fa fd [x] (spLaw m (K w.params))) :
    PySem.W.WalkO q loose XP YP l.row.toRowW d [] (fun f vs => PySem.call f vs) :=
  L2.walk_of (n := 63) (k := k) (x := x) (CX := fun w => L2.CX l.prog w) (sp := fun w => spLaw m (K w.params)) hn (by decide) hdf hr hY F (fun _ _ a ns hl _ hS => law_sp (hm ns hl) hS) fun w H s e s' z => by
    obtain ⟨_, _, _, _, _, _, _, _, _, _, _, _, z⟩ := z
    exact z
/-! ### an exception's __init__(self, f): self.f = f -/
theorem x_init1 {P : Program} {w : World} {K : PySem.W.Frag} {mg : Str → Option Value} {base : Heap} {x qual : Str} {st : Stmt} {f C : Addr} {fd : FuncData} {a1 f1 : Str} (F : FD K x qual st [] f fd) (S : FnScope ["self", a1] ["self", a1] (defScope st)) (T : OexC K C) (hno : PySem.W.findIn K (.ref C) f1 = some none)
    (der : ∀ cdv A outer s H E, PSs (cxOf (L2.CX P w) P w K mg base ["self", a1] qual (defScope st) f cdv A outer s H E) (defBody st) (tOst K f1 (tVar 0) (tVar 1))) : FnOk P w K mg base (L2.CX P w) 1 f fd ["self", a1] (spX C [f1]) := by
  refine FunD.ok (k := 0) F S (fun vs H Q E h => ?_) fun cdv A outer s H vs Q E hr h => ⟨_, der cdv A outer s H E, ?_⟩
  · obtain ⟨a, ws, rfl, hl, _⟩ := h
    rw [List.length_cons, hl]; rfl
  · obtain ⟨a, ws, rfl, hl, ha, k⟩ := h
    match ws, hl with
    | [v], _ =>
      refine ⟨v, rfl, .ref a, rfl, a, C, rfl, T, hno, .inl ⟨ha, fun dx hd ne => ?_⟩⟩
      refine k dx _ hd ne (fun b h1 h2 => ?_) upd_same ?_
      · rw [upd_ne h1, upd_ne h2]
      · rw [upd_ne ne, upd_same]; rfl
end Mi

/-! MiSuite: rules that ask no room (for except suites). -/
namespace Mi
open PySem PySem.Spec PyProof.Rows L2
section
variable {G : Gx}
def eqS : D → D → M D := fun x y st => match x, y with
  | .int i, .int j => .ok (.bl (decide (i = j))) st
  | .str a, .str b => .ok (.bl (decide (a = b))) st
  | .bl a, .bl b => .ok (.bl (decide (a = b))) st
  | _, _ => .bad
theorem cd_eqS : OpD G (compareOp .Eq) eqS := by
  intro σ W st x y dx dy Q wk rx ry p
  unfold eqS at p
  split at p
  · rename_i i j
    cases rx; cases ry
    exact qo_of op_eq ⟨rfl, by rw [dec_vi]; exact p _ W (Ext.refl W) wk (.bl _)⟩
  · rename_i i j
    cases rx; cases ry
    exact qo_of op_eq ⟨rfl, by rw [dec_vs]; exact p _ W (Ext.refl W) wk (.bl _)⟩
  · rename_i i j
    cases rx; cases ry
    exact qo_of op_eq ⟨rfl, by rw [dec_vb]; exact p _ W (Ext.refl W) wk (.bl _)⟩
  · exact p.elim
def neS : D → D → M D := fun x y st => match x, y with
  | .int i, .int j => .ok (.bl (!decide (i = j))) st
  | .str a, .str b => .ok (.bl (!decide (a = b))) st
  | .bl a, .bl b => .ok (.bl (!decide (a = b))) st
  | _, _ => .bad
theorem cd_neS : OpD G (compareOp .NotEq) neS := by
  intro σ W st x y dx dy Q wk rx ry p
  unfold neS at p
  split at p
  · rename_i i j
    cases rx; cases ry
    exact qo_of op_ne ⟨rfl, by rw [dec_vi]; exact p _ W (Ext.refl W) wk (.bl _)⟩
  · rename_i i j
    cases rx; cases ry
    exact qo_of op_ne ⟨rfl, by rw [dec_vs]; exact p _ W (Ext.refl W) wk (.bl _)⟩
  · rename_i i j
    cases rx; cases ry
    exact qo_of op_ne ⟨rfl, by rw [dec_vb]; exact p _ W (Ext.refl W) wk (.bl _)⟩
  · exact p.elim
def truS : D → M Bool := fun x st => match x with
  | .non => .ok false st
  | .bl b => .ok b st
  | .int i => .ok (i != 0) st
  | .str y => if y.length ≤ LIM then .ok ((y.length : Int) != 0) st else .bad
  | .tup xs => .ok (!xs.isEmpty) st
  | x => (match seqOf x st with
    | some xs => .ok (!xs.isEmpty) st
    | none => .bad)
theorem td_truS : TrD G truS := by
  intro σ W st x dx Q wk rx p
  unfold truS at p
  split at p
  · cases rx; exact qtr_of tru_ok ⟨false, rfl, p W (Ext.refl W) wk⟩
  · rename_i b; cases rx; exact qtr_of tru_ok ⟨b, rfl, p W (Ext.refl W) wk⟩
  · rename_i i; cases rx; exact qtr_of tru_ok ⟨_, rfl, p W (Ext.refl W) wk⟩
  · rename_i y
    cases rx
    by_cases hl : y.length ≤ LIM
    · rw [if_pos hl] at p; exact qtr_of tru_ok ⟨_, ⟨lim_le hl, rfl⟩, p W (Ext.refl W) wk⟩
    · rw [if_neg hl] at p; exact p.elim
  · rename_i xs
    obtain ⟨q, ys, rfl, s1, r1⟩ := rx.sqT
    exact qtr_of tru_ok ⟨_, .inr (.inl ⟨ys, s1, rfl⟩), by rw [isEmpty_reps r1]; exact p W (Ext.refl W) wk⟩
  · split at p
    · rename_i xs hs
      obtain ⟨q, ys, rfl, s1, r1⟩ := seqOf_at wk rx hs
      exact qtr_of tru_ok ⟨_, .inl ⟨ys, s1, rfl⟩, by rw [isEmpty_reps r1]; exact p W (Ext.refl W) wk⟩
    · exact p.elim
end
end Mi

/-! MiGen: the rules with their tables as written lists, for texts that a program prints. -/
namespace Mi
open PySem PySem.Spec PyProof.Rows L2
theorem al_nil {α β : Type} [BEq α] {P : α → β → Prop} : ∀ c b, ([] : List (α × β)).lookup c = some b → P c b := fun c b h => by cases h
theorem al_cons {α β : Type} [BEq α] [LawfulBEq α] {P : α → β → Prop} {a : α} {b : β} {l : List (α × β)} (h : P a b) (t : ∀ c b, l.lookup c = some b → P c b) : ∀ c b', ((a, b) :: l).lookup c = some b' → P c b' := fun c b' e => by
  rw [List.lookup_cons] at e
  cases q : c == a with
  | true =>
    rw [q] at e
    cases e
    rw [beq_iff_eq.mp q]
    exact h
  | false => rw [q] at e; exact t c b' e
abbrev ClsOf (K : PySem.W.Frag) (ca : Nat → Addr) (t : Tag) : Prop := ∀ c, t = .own c → ClsX K (ca c)
theorem co_no {K : PySem.W.Frag} {ca : Nat → Addr} {t : Tag} (h : ∀ c, t ≠ .own c := by intro c z; cases z) : ClsOf K ca t := fun c e => absurd e (h c)
theorem co_own {K : PySem.W.Frag} {ca : Nat → Addr} {c : Nat} (h : ClsX K (ca c)) : ClsOf K ca (.own c) := fun c' e => by cases e; exact h
section
variable {G : Gx} {k : Nat} {tab : Tab} {e e2 : Expr} {ma : EM} {p pos : Pos}
abbrev TagB := List (Tag × Bool)
theorem re_isiL {v2 : V} {cv : Value} {l : TagB} (h : ∀ t b, l.lookup t = some b → PySem.W.kitOne G.X.K (tagV G.ca t) cv = some b ∧ ClsOf G.X.K G.ca t) (hv2 : ∀ u, RelV v2 u → u = cv)
    (ha : RE G e ma) (he2 : PE G.X e2 (tC v2)) (hg : Gl G.X "isinstance") (hm : G.X.mg "isinstance" = none)
    (hs1 : starEach (e :: [e2]) G.X.env = (false, eval e G.X.env) :: starEach [e2] G.X.env := by rfl) (hs2 : starEach (e2 :: []) G.X.env = (false, eval e2 G.X.env) :: starEach [] G.X.env := by rfl) (hpl : (backTo pos (starEach [e2] G.X.env)).any (·.1) = false := by rfl) :
    RE G (.Call (.Name "isinstance" p) [e, e2] [] pos) (eIsi (fun t => l.lookup t) ma) := by
  refine re_isi (fun c hc => ?_) (fun t b hb => (h t b hb).1) hv2 ha he2 hg hm hs1 hs2 hpl
  obtain ⟨b, hb⟩ := Option.isSome_iff_exists.mp hc
  exact (h _ b hb).2 c rfl
/-- which class may be compared with which type -/
abbrev NfL := List ((Nat × Tag) × Bool)
def nfL (l : NfL) (c : Nat) (t : Tag) : Bool := l.lookup (c, t) == some true
abbrev NfP (K : PySem.W.Frag) (ca : Nat → Addr) (p : Nat × Tag) (_ : Bool) : Prop := PySem.W.notFirst K (ca p.1) (tagV ca p.2) = true ∧ ClsOf K ca p.2
theorem cd_eqL {l : NfL} (tk : Takes G.X G.E) (hr : Room k G.X.A) (ht : TabOk G k "__eq__" 2 tab) (h : ∀ p b, l.lookup p = some b → NfP G.X.K G.ca p b) : OpD G (compareOp .Eq) (eqD tab (nfL l)) :=
  cd_eq tk hr ht fun c t hn => h (c, t) true (beq_iff_eq.mp hn)
theorem cd_leL {l : NfL} (tk : Takes G.X G.E) (hr : Room k G.X.A) (ht : TabOk G k "__le__" 2 tab) (h : ∀ p b, l.lookup p = some b → NfP G.X.K G.ca p b) : OpD G (compareOp .LtE) (leD tab (nfL l)) :=
  cd_le tk hr ht fun c t hn => h (c, t) true (beq_iff_eq.mp hn)
abbrev ClB := List (Nat × Bool)
def subL (l : ClB) (c : Nat) : Option Bool := l.lookup c
end
end Mi

/-! MiGen2: calls with what is bound, tables of exceptions. -/
namespace Mi
open PySem PySem.Spec PyProof.Rows L2 ClX
def BD (K : PySem.W.Frag) (fd : FuncData) (ps : List Str) (dvs : List V) : Prop := ∃ ds, Vals dvs ds ∧ Binds K fd ps ds
theorem BD.b0 {K : PySem.W.Frag} {fd : FuncData} {ps : List Str} (h : BD K fd ps []) : Binds K fd ps [] := by
  obtain ⟨ds, v, b⟩ := h
  cases v
  exact b
theorem bd0 {K : PySem.W.Frag} {x qual : Str} {st : Stmt} {f : Addr} {fd : FuncData} {ps : List Str} (F : FD K x qual st [] f fd) (h : ∀ (kV doc pm : Value) (an : Option Addr) (cdv ct : Value) (us : List Value), us.length = ps.length → bindArgs (PySem.W.fnOf x qual (defArgs st) (defBody st) (defScope st) .none kV doc pm an cdv ct) ⟨us, []⟩ = pure (ps.zip us)) : BD K fd ps [] :=
  ⟨[], .nil, F.binds0 h⟩
section
variable {G : Gx} {k n c : Nat} {f : Addr} {fd : FuncData} {ps : List Str} {m : List D → M D} {mi : List D → M Fs} {dvs : List V} {dds : List D} {name : Str}
theorem call_defE (tk : Takes G.X G.E) (F : FnOk G.X.prog G.X.w G.X.K G.X.mg G.X.base (L2.CX G.X.prog G.X.w) k f fd ps (spM G.X.K G.ca n m)) (hr : Room k G.X.A) (hb : BD G.X.K fd ps dvs) (rd : ∀ W, Reps G.X.K G.ca W dvs dds) : CallD G (.ref f) (mCall n dds m) := by
  obtain ⟨ds, v, b⟩ := hb
  exact call_def tk F hr b v rd
theorem call_newE (tk : Takes G.X G.E) (Mk1 : Mk G.X.K (G.ca c) f) (F : FnOk G.X.prog G.X.w G.X.K G.X.mg G.X.base (L2.CX G.X.prog G.X.w) k f fd ps (spI G.X.K G.ca c n mi)) (hr : Room (k + 1) G.X.A) (hb : BD G.X.K fd ps dvs) (rd : ∀ W, Reps G.X.K G.ca W dvs dds) : CallD G (.ref (G.ca c)) (mNew c n dds mi) := by
  obtain ⟨ds, v, b⟩ := hb
  exact call_new tk Mk1 F hr b v rd
theorem df_mk (F : FnOk G.X.prog G.X.w G.X.K G.X.mg G.X.base (L2.CX G.X.prog G.X.w) k f fd ps (spM G.X.K G.ca n m)) (hb : BD G.X.K fd ps []) : Df G k f n m := ⟨fd, ps, F, hb.b0⟩
theorem tb_meth {tab : Tab} {j : Nat} (F : Df G j f n m) (h : j ≤ k) (me : Meth G.X.K (G.ca c) name f) (sf : PySem.W.selfFirst G.X.K (G.ca c) = true) (t : TabOk G k name n tab) : TabOk G k name n ((c, m) :: tab) := tb_cons (F.mono h) me.at_ me.fn sf t
theorem mo_mk {g : List D → M D} (cl : Cls G.X.K (G.ca c)) (me : Meth G.X.K (G.ca c) name f) (h : CallD G (.ref f) g) : MOk G name c g := ⟨cl, f, me, h⟩
theorem re_cel {e : Expr} {m : AM} (h : RL G e m) : RE G e (eCel m) := RdL.c (t := QE G e) h
theorem re_cconE {x : Str} {f : Str} {C : Addr} {mc : Value} {v : V} {d : D} {pn pos : Pos} (hg : Gl G.X x) (hm : G.X.mg x = some (.ref C)) (r : CRead G.X.K C mc) (c : ∃ u, CVal G.X.K C mc f v u) (rd : ∀ W, Rep G.X.K G.ca W v d) (hb : attributeBase (.Name x pn) f G.X.env (eval (.Name x pn) G.X.env) = eval (.Name x pn) G.X.env := by rfl) (hd : (x == ("__debug__" : Str)) = false := by decide) :
    RE G (.Attribute (.Name x pn) f pos) (eC d) := let ⟨_, c⟩ := c; re_ccon hg hm r c rd hb hd
theorem mb_nil {α : Type} {P : α → Prop} : ∀ c ∈ ([] : List α), P c := fun c h => by cases h
theorem mb_cons {α : Type} {P : α → Prop} {a : α} {l : List α} (h : P a) (t : ∀ c ∈ l, P c) : ∀ c ∈ a :: l, P c := fun c z => by
  rcases List.mem_cons.mp z with e | e
  · rw [e]; exact h
  · exact t c e
theorem xb_cons {tab : Tab} {P : Nat → Prop} {g : List D → M D} (h : P c) (t : ∀ c, (tab.lookup c).isSome = true → P c) : ∀ c', (((c, g) :: tab : Tab).lookup c').isSome = true → P c' := fun c' z => by
  rw [List.lookup_cons] at z
  cases q : c' == c with
  | true => rw [beq_iff_eq.mp q]; exact h
  | false => rw [q] at z; exact t c' z
theorem xb_nil {P : Nat → Prop} : ∀ c', (([] : Tab).lookup c').isSome = true → P c' := fun c' z => by cases z
end
section
variable {G : Gx} {e e2 : Expr} {a : Addr} {oe : Obj} {cls cv : Value} {d : Option Addr} {pn : List (Addr × Obj)} {i : Nat} {pos : Pos}
theorem re_isXL {v2 : V} {p : Pos} {l : ClB} (h : ∀ c b, l.lookup c = some b → PySem.W.kitOne G.X.K (.ref (G.ca c)) cv = some b ∧ ExcC G.X.K (G.ca c) ∧ (PySem.W.clsIn G.X.K (G.ca c)).isSome = true) (hv2 : ∀ u, RelV v2 u → u = cv) (hz : Zc cls d oe) (hd : ∃ vs, oe.data = .fields vs)
    (he : PE (G.X.suite a ((a, oe) :: pn)) e (tVar i)) (he2 : PE (G.X.suite a ((a, oe) :: pn)) e2 (tC v2)) (hg : Gl (G.X.suite a ((a, oe) :: pn)) "isinstance") (hm : G.X.mg "isinstance" = none)
    (hs1 : starEach (e :: [e2]) G.X.env = (false, eval e G.X.env) :: starEach [e2] G.X.env := by rfl) (hs2 : starEach (e2 :: []) G.X.env = (false, eval e2 G.X.env) :: starEach [] G.X.env := by rfl) (hpl : (backTo pos (starEach [e2] G.X.env)).any (·.1) = false := by rfl) :
    RE (G.su a oe cls d pn) (.Call (.Name "isinstance" p) [e, e2] [] pos) (eIsX (subL l) i) := by
  refine re_isX (p1 := p) (sub := subL l) (fun c hc => ?_) (fun c b hb => (h c b hb).1) hv2 hz hd he he2 hg hm hs1 hs2 hpl
  obtain ⟨b, hb⟩ := Option.isSome_iff_exists.mp hc
  exact (h c b hb).2
end
theorem rs_raiseE {G : Gx} {k c : Nat} {fI : Addr} {fd : FuncData} {ps : List Str} {x : Str} {e : Expr} {es : List Expr} {aa : AM} {fs : List Str} {p pos pos2 : Pos} (hc : G.X.calm = true) (tk : Takes G.X G.E) (T : OexC G.X.K (G.ca c)) (iC : PySem.W.findIn G.X.K (.ref (G.ca c)) "__init__" = some (some (.ref fI))) (tI : PySem.W.typeIn G.X.K (.ref fI) = some (.type "function"))
    (F : FnOk G.X.prog G.X.w G.X.K G.X.mg G.X.base (L2.CX G.X.prog G.X.w) k fI fd ps (spX (G.ca c) fs)) (hr : Room (k + 1) G.X.A) (hb : BD G.X.K fd ps []) (hg : Gl G.X x) (hm : G.X.mg x = some (.ref (G.ca c))) (ha : RA G (e :: es) aa) (hl : fs.length ≤ 1000)
    (hdb : (x == ("__debug__" : Str)) = false := by decide) (he : starEach (e :: es) G.X.env = (false, eval e G.X.env) :: starEach es G.X.env := by rfl) (hpl : (backTo pos (starEach es G.X.env)).any (·.1) = false := by rfl) :
    RS G (.Raise (some (.Call (.Name x p) (e :: es) [] pos)) none pos2) (sRaise c fs.length fs aa) := rs_raise hc tk T iC tI F hr hb.b0 hg hm ha hl hdb he hpl
theorem rt_w {G : Gx} {e : Expr} {m : TM} (h : RW G e m) : RT G e m := h.t
theorem rv_ref {A : Addr} : ∀ u, RelV (.ref A) u → u = .ref A := fun _ h => h
theorem rv_ty {n : String} : ∀ u, RelV (.ty n) u → u = .type n := fun _ h => h
end Mi

namespace W00
open PySem PySem.Spec PyProof.Rows L2 ClX ItX Mi
def topS (i : Nat) : Stmt := PySem.Challenge.pw_pagebureau_k00_marks_as_sets.main.body.getD i (.Pass ⟨0, 0, 0, 0⟩)
/-! BadMarks.__init__ -/
abbrev s0 : Stmt := inClass (topS 2) 0
abbrev N0 : List Str := ["self", "given"]
theorem sc0 : FnScope N0 ["self", "given"] (defScope s0) := ⟨rfl, rfl, rfl, by decide +kernel, rfl, by decide +kernel, by decide +kernel⟩
/-! BadText.__init__ -/
abbrev s1 : Stmt := inClass (topS 3) 0
abbrev N1 : List Str := ["self", "at"]
theorem sc1 : FnScope N1 ["self", "at"] (defScope s1) := ⟨rfl, rfl, rfl, by decide +kernel, rfl, by decide +kernel, by decide +kernel⟩
/-! is_mark -/
abbrev s2 : Stmt := topS 5
abbrev N2 : List Str := ["thing"]
theorem sc2 : FnScope N2 ["thing"] (defScope s2) := ⟨rfl, rfl, rfl, by decide +kernel, rfl, by decide +kernel, by decide +kernel⟩
/-! in_order -/
abbrev s3 : Stmt := topS 6
abbrev N3 : List Str := ["letters", "mark"]
theorem sc3 : FnScope N3 ["letters"] (defScope s3) := ⟨rfl, rfl, rfl, by decide +kernel, rfl, by decide +kernel, by decide +kernel⟩
/-! Marks.__init__ -/
abbrev s4 : Stmt := inClass (topS 7) 1
abbrev N4 : List Str := ["self", "letters", "letter"]
theorem sc4 : FnScope N4 ["self", "letters"] (defScope s4) := ⟨rfl, rfl, rfl, by decide +kernel, rfl, by decide +kernel, by decide +kernel⟩
/-! Marks.text -/
abbrev s5 : Stmt := inClass (topS 7) 3
abbrev N5 : List Str := ["self"]
theorem sc5 : FnScope N5 ["self"] (defScope s5) := ⟨rfl, rfl, rfl, by decide +kernel, rfl, by decide +kernel, by decide +kernel⟩
/-! Marks.__len__ -/
abbrev s6 : Stmt := inClass (topS 7) 4
abbrev N6 : List Str := ["self"]
theorem sc6 : FnScope N6 ["self"] (defScope s6) := ⟨rfl, rfl, rfl, by decide +kernel, rfl, by decide +kernel, by decide +kernel⟩
/-! Marks.__iter__ -/
abbrev s7 : Stmt := inClass (topS 7) 5
abbrev N7 : List Str := ["self"]
theorem sc7 : FnScope N7 ["self"] (defScope s7) := ⟨rfl, rfl, rfl, by decide +kernel, rfl, by decide +kernel, by decide +kernel⟩
/-! Marks.__contains__ -/
abbrev s8 : Stmt := inClass (topS 7) 6
abbrev N8 : List Str := ["self", "mark"]
theorem sc8 : FnScope N8 ["self", "mark"] (defScope s8) := ⟨rfl, rfl, rfl, by decide +kernel, rfl, by decide +kernel, by decide +kernel⟩
/-! Marks.__and__ -/
abbrev s9 : Stmt := inClass (topS 7) 7
abbrev N9 : List Str := ["self", "other", "mark"]
theorem sc9 : FnScope N9 ["self", "other"] (defScope s9) := ⟨rfl, rfl, rfl, by decide +kernel, rfl, by decide +kernel, by decide +kernel⟩
/-! Marks.__or__ -/
abbrev s10 : Stmt := inClass (topS 7) 8
abbrev N10 : List Str := ["self", "other"]
theorem sc10 : FnScope N10 ["self", "other"] (defScope s10) := ⟨rfl, rfl, rfl, by decide +kernel, rfl, by decide +kernel, by decide +kernel⟩
/-! Marks.__sub__ -/
abbrev s11 : Stmt := inClass (topS 7) 9
abbrev N11 : List Str := ["self", "other", "mark"]
theorem sc11 : FnScope N11 ["self", "other"] (defScope s11) := ⟨rfl, rfl, rfl, by decide +kernel, rfl, by decide +kernel, by decide +kernel⟩
/-! Marks.__xor__ -/
abbrev s12 : Stmt := inClass (topS 7) 10
abbrev N12 : List Str := ["self", "other"]
theorem sc12 : FnScope N12 ["self", "other"] (defScope s12) := ⟨rfl, rfl, rfl, by decide +kernel, rfl, by decide +kernel, by decide +kernel⟩
/-! Marks.__invert__ -/
abbrev s13 : Stmt := inClass (topS 7) 11
abbrev N13 : List Str := ["self", "mark"]
theorem sc13 : FnScope N13 ["self"] (defScope s13) := ⟨rfl, rfl, rfl, by decide +kernel, rfl, by decide +kernel, by decide +kernel⟩
/-! Marks.__le__ -/
abbrev s14 : Stmt := inClass (topS 7) 12
abbrev N14 : List Str := ["self", "other", "mark"]
theorem sc14 : FnScope N14 ["self", "other"] (defScope s14) := ⟨rfl, rfl, rfl, by decide +kernel, rfl, by decide +kernel, by decide +kernel⟩
/-! Marks.__eq__ -/
abbrev s15 : Stmt := inClass (topS 7) 13
abbrev N15 : List Str := ["self", "other"]
theorem sc15 : FnScope N15 ["self", "other"] (defScope s15) := ⟨rfl, rfl, rfl, by decide +kernel, rfl, by decide +kernel, by decide +kernel⟩
/-! Marks.read -/
abbrev s16 : Stmt := inClass (topS 7) 2
abbrev N16 : List Str := ["cls", "text", "letters"]
theorem sc16 : FnScope N16 ["cls", "text"] (defScope s16) := ⟨rfl, rfl, rfl, by decide +kernel, rfl, by decide +kernel, by decide +kernel⟩
/-! _law_draws -/
abbrev s17 : Stmt := topS 9
abbrev N17 : List Str := ["_law_script", "_law_pool", "_law_cell", "_law_rest", "_law_k", "_law_once"]
theorem sc17 : FnScope N17 ["_law_script"] (defScope s17) := ⟨rfl, rfl, rfl, by decide +kernel, rfl, by decide +kernel, by decide +kernel⟩
/-! _law_draw -/
abbrev s18 : Stmt := topS 10
abbrev N18 : List Str := ["_law_pool", "_law_many"]
theorem sc18 : FnScope N18 ["_law_pool", "_law_many"] (defScope s18) := ⟨rfl, rfl, rfl, by decide +kernel, rfl, by decide +kernel, by decide +kernel⟩
/-! _law_letters -/
abbrev s19 : Stmt := topS 11
abbrev N19 : List Str := ["_law_pool", "_law_many", "_law_k"]
theorem sc19 : FnScope N19 ["_law_pool"] (defScope s19) := ⟨rfl, rfl, rfl, by decide +kernel, rfl, by decide +kernel, by decide +kernel⟩
/-! _law_letters_beside -/
abbrev s20 : Stmt := topS 12
abbrev N20 : List Str := ["_law_pool", "_law_first", "_law_kind", "_law_mark"]
theorem sc20 : FnScope N20 ["_law_pool", "_law_first"] (defScope s20) := ⟨rfl, rfl, rfl, by decide +kernel, rfl, by decide +kernel, by decide +kernel⟩
/-! _law_char -/
abbrev s21 : Stmt := topS 13
abbrev N21 : List Str := ["_law_pool", "_law_chars"]
theorem sc21 : FnScope N21 ["_law_pool"] (defScope s21) := ⟨rfl, rfl, rfl, by decide +kernel, rfl, by decide +kernel, by decide +kernel⟩
/-! _law_bent -/
abbrev s22 : Stmt := topS 14
abbrev N22 : List Str := ["_law_pool", "_law_text", "_law_kind", "_law_at", "_law_char_here", "_law_here"]
theorem sc22 : FnScope N22 ["_law_pool", "_law_text"] (defScope s22) := ⟨rfl, rfl, rfl, by decide +kernel, rfl, by decide +kernel, by decide +kernel⟩
/-! _law_set -/
abbrev s23 : Stmt := topS 15
abbrev N23 : List Str := ["_law_text", "_law_mark"]
theorem sc23 : FnScope N23 ["_law_text"] (defScope s23) := ⟨rfl, rfl, rfl, by decide +kernel, rfl, by decide +kernel, by decide +kernel⟩
/-! _law_is -/
abbrev s24 : Stmt := topS 16
abbrev N24 : List Str := ["_law_marks", "_law_due", "_law_mark"]
theorem sc24 : FnScope N24 ["_law_marks", "_law_due"] (defScope s24) := ⟨rfl, rfl, rfl, by decide +kernel, rfl, by decide +kernel, by decide +kernel⟩
/-! _law_members -/
abbrev s25 : Stmt := topS 17
abbrev N25 : List Str := ["_law_marks", "_law_due", "_law_longer", "_law_mark", "_law_text"]
theorem sc25 : FnScope N25 ["_law_marks", "_law_due", "_law_longer"] (defScope s25) := ⟨rfl, rfl, rfl, by decide +kernel, rfl, by decide +kernel, by decide +kernel⟩
/-! _law_results -/
abbrev s26 : Stmt := topS 18
abbrev N26 : List Str := ["_law_a", "_law_b", "_law_one", "_law_two", "_law_both", "_law_left", "_law_right", "_law_either", "_law_odd", "_law_rest", "_law_rows", "_law_told", "_law_due", "_law_mark"]
theorem sc26 : FnScope N26 ["_law_a", "_law_b", "_law_one", "_law_two"] (defScope s26) := ⟨rfl, rfl, rfl, by decide +kernel, rfl, by decide +kernel, by decide +kernel⟩
/-! _law_equal -/
abbrev s27 : Stmt := topS 19
abbrev N27 : List Str := ["_law_a", "_law_b", "_law_one", "_law_two", "_law_less", "_law_more", "_law_rows", "_law_told", "_law_due", "_law_mark"]
theorem sc27 : FnScope N27 ["_law_a", "_law_b", "_law_one", "_law_two"] (defScope s27) := ⟨rfl, rfl, rfl, by decide +kernel, rfl, by decide +kernel, by decide +kernel⟩
/-! _law_made_right -/
abbrev s28 : Stmt := topS 20
abbrev N28 : List Str := ["_law_text", "_law_good", "_law_marks", "e", "_law_char_here"]
theorem sc28 : FnScope N28 ["_law_text"] (defScope s28) := ⟨rfl, rfl, rfl, by decide +kernel, rfl, by decide +kernel, by decide +kernel⟩
/-! _law_read_right -/
abbrev s29 : Stmt := topS 21
abbrev N29 : List Str := ["_law_text", "_law_due", "_law_good", "_law_marks", "e"]
theorem sc29 : FnScope N29 ["_law_text"] (defScope s29) := ⟨rfl, rfl, rfl, by decide +kernel, rfl, by decide +kernel, by decide +kernel⟩
/-! law -/
abbrev s30 : Stmt := topS 22
abbrev N30 : List Str := ["_law_script", "_law_pool", "_law_first", "_law_second", "_law_a", "_law_b", "_law_one", "_law_two", "_law_plain", "_law_texts", "_law_text"]
theorem sc30 : FnScope N30 ["_law_script"] (defScope s30) := ⟨rfl, rfl, rfl, by decide +kernel, rfl, by decide +kernel, by decide +kernel⟩
structure Txt (K : PySem.W.Frag) (mg : Str → Option Value) (ca fa pa : Nat → Addr) (fd : Nat → FuncData) : Prop where
  mgc1 : mg "BadMarks" = some (.ref (ca 1))
  fi0 : PySem.W.findIn K (.ref (ca 1)) "__init__" = some (some (.ref (fa 0)))
  F0 : FD K "__init__" "BadMarks.__init__" s0 [] (fa 0) (fd 0)
  ox1 : OexC K (ca 1)
  na1_given : NoAttr K (ca 1) "given"
  mgc2 : mg "BadText" = some (.ref (ca 2))
  fi1 : PySem.W.findIn K (.ref (ca 2)) "__init__" = some (some (.ref (fa 1)))
  F1 : FD K "__init__" "BadText.__init__" s1 [] (fa 1) (fd 1)
  ox2 : OexC K (ca 2)
  na2_at : NoAttr K (ca 2) "at"
  g2 : mg "is_mark" = some (.ref (fa 2))
  F2 : FD K "is_mark" "is_mark" s2 [] (fa 2) (fd 2)
  z_isinstance : mg "isinstance" = none
  z_str : mg "str" = none
  kit_non_str : PySem.W.kitOne K (tagV ca .non) (.type "str") = some false
  kit_bl_str : PySem.W.kitOne K (tagV ca .bl) (.type "str") = some false
  kit_int_str : PySem.W.kitOne K (tagV ca .int) (.type "str") = some false
  kit_str_str : PySem.W.kitOne K (tagV ca .str) (.type "str") = some true
  kit_lst_str : PySem.W.kitOne K (tagV ca .lst) (.type "str") = some false
  kit_tup_str : PySem.W.kitOne K (tagV ca .tup) (.type "str") = some false
  kit_o3_str : PySem.W.kitOne K (tagV ca (.own 3)) (.type "str") = some false
  mgc3 : mg "Marks" = some (.ref (ca 3))
  cl3 : ClsX K (ca 3)
  z_len : mg "len" = none
  cr3 : CRead K (ca 3) (.type "type")
  cv3_ALL : ∃ u, CVal K (ca 3) (.type "type") "ALL" (V.str "abcdef") u
  g3 : mg "in_order" = some (.ref (fa 3))
  F3 : FD K "in_order" "in_order" s3 [] (fa 3) (fd 3)
  fi4 : PySem.W.findIn K (.ref (ca 3)) "__init__" = some (some (.ref (fa 4)))
  F4 : FD K "__init__" "Marks.__init__" s4 [(V.str "")] (fa 4) (fd 4)
  z_all : mg "all" = none
  ti0 : PySem.W.typeIn K (.ref (fa 0)) = some (.type "function")
  na3_letters : NoAttr K (ca 3) "letters"
  fi5 : PySem.W.findIn K (.ref (ca 3)) "text" = some (some (.ref (fa 5)))
  F5 : FD K "text" "Marks.text" s5 [] (fa 5) (fd 5)
  fi6 : PySem.W.findIn K (.ref (ca 3)) "__len__" = some (some (.ref (fa 6)))
  F6 : FD K "__len__" "Marks.__len__" s6 [] (fa 6) (fd 6)
  fi7 : PySem.W.findIn K (.ref (ca 3)) "__iter__" = some (some (.ref (fa 7)))
  F7 : FD K "__iter__" "Marks.__iter__" s7 [] (fa 7) (fd 7)
  me7 : Meth K (ca 3) "__iter__" (fa 7)
  z_iter : mg "iter" = none
  fi8 : PySem.W.findIn K (.ref (ca 3)) "__contains__" = some (some (.ref (fa 8)))
  F8 : FD K "__contains__" "Marks.__contains__" s8 [] (fa 8) (fd 8)
  me6 : Meth K (ca 3) "__len__" (fa 6)
  sf3 : PySem.W.selfFirst K (ca 3) = true
  nb3 : PySem.W.findIn K (.ref (ca 3)) "__bool__" = some none
  fi9 : PySem.W.findIn K (.ref (ca 3)) "__and__" = some (some (.ref (fa 9)))
  F9 : FD K "__and__" "Marks.__and__" s9 [] (fa 9) (fd 9)
  mk3 : Mk K (ca 3) (fa 4)
  me8 : Meth K (ca 3) "__contains__" (fa 8)
  kc3 : PySem.W.keepIn K (.ref (ca 3)) = true
  fi10 : PySem.W.findIn K (.ref (ca 3)) "__or__" = some (some (.ref (fa 10)))
  F10 : FD K "__or__" "Marks.__or__" s10 [] (fa 10) (fd 10)
  fi11 : PySem.W.findIn K (.ref (ca 3)) "__sub__" = some (some (.ref (fa 11)))
  F11 : FD K "__sub__" "Marks.__sub__" s11 [] (fa 11) (fd 11)
  fi12 : PySem.W.findIn K (.ref (ca 3)) "__xor__" = some (some (.ref (fa 12)))
  F12 : FD K "__xor__" "Marks.__xor__" s12 [] (fa 12) (fd 12)
  me11 : Meth K (ca 3) "__sub__" (fa 11)
  me10 : Meth K (ca 3) "__or__" (fa 10)
  me9 : Meth K (ca 3) "__and__" (fa 9)
  fi13 : PySem.W.findIn K (.ref (ca 3)) "__invert__" = some (some (.ref (fa 13)))
  F13 : FD K "__invert__" "Marks.__invert__" s13 [] (fa 13) (fd 13)
  fi14 : PySem.W.findIn K (.ref (ca 3)) "__le__" = some (some (.ref (fa 14)))
  F14 : FD K "__le__" "Marks.__le__" s14 [] (fa 14) (fd 14)
  fi15 : PySem.W.findIn K (.ref (ca 3)) "__eq__" = some (some (.ref (fa 15)))
  F15 : FD K "__eq__" "Marks.__eq__" s15 [] (fa 15) (fd 15)
  kit_non_c3 : PySem.W.kitOne K (tagV ca .non) (.ref (ca 3)) = some false
  kit_bl_c3 : PySem.W.kitOne K (tagV ca .bl) (.ref (ca 3)) = some false
  kit_int_c3 : PySem.W.kitOne K (tagV ca .int) (.ref (ca 3)) = some false
  kit_str_c3 : PySem.W.kitOne K (tagV ca .str) (.ref (ca 3)) = some false
  kit_lst_c3 : PySem.W.kitOne K (tagV ca .lst) (.ref (ca 3)) = some false
  kit_tup_c3 : PySem.W.kitOne K (tagV ca .tup) (.ref (ca 3)) = some false
  kit_o3_c3 : PySem.W.kitOne K (tagV ca (.own 3)) (.ref (ca 3)) = some true
  cm16 : CMet K (ca 3) (.type "type") "read" (pa 16) (fa 16)
  F16 : FD K "read" "Marks.read" s16 [] (fa 16) (fd 16)
  ti1 : PySem.W.typeIn K (.ref (fa 1)) = some (.type "function")
  g17 : mg "_law_draws" = some (.ref (fa 17))
  F17 : FD K "_law_draws" "_law_draws" s17 [] (fa 17) (fd 17)
  z_int : mg "int" = none
  z_abs : mg "abs" = none
  z_range : mg "range" = none
  g18 : mg "_law_draw" = some (.ref (fa 18))
  F18 : FD K "_law_draw" "_law_draw" s18 [] (fa 18) (fd 18)
  me15 : Meth K (ca 3) "__eq__" (fa 15)
  nf3_non : PySem.W.notFirst K (ca 3) (tagV ca .non) = true
  nf3_bl : PySem.W.notFirst K (ca 3) (tagV ca .bl) = true
  nf3_int : PySem.W.notFirst K (ca 3) (tagV ca .int) = true
  nf3_str : PySem.W.notFirst K (ca 3) (tagV ca .str) = true
  nf3_lst : PySem.W.notFirst K (ca 3) (tagV ca .lst) = true
  nf3_tup : PySem.W.notFirst K (ca 3) (tagV ca .tup) = true
  nf3_3o : PySem.W.notFirst K (ca 3) (tagV ca (.own 3)) = true
  g19 : mg "_law_letters" = some (.ref (fa 19))
  F19 : FD K "_law_letters" "_law_letters" s19 [] (fa 19) (fd 19)
  g20 : mg "_law_letters_beside" = some (.ref (fa 20))
  F20 : FD K "_law_letters_beside" "_law_letters_beside" s20 [] (fa 20) (fd 20)
  g21 : mg "_law_char" = some (.ref (fa 21))
  F21 : FD K "_law_char" "_law_char" s21 [] (fa 21) (fd 21)
  g22 : mg "_law_bent" = some (.ref (fa 22))
  F22 : FD K "_law_bent" "_law_bent" s22 [] (fa 22) (fd 22)
  g23 : mg "_law_set" = some (.ref (fa 23))
  F23 : FD K "_law_set" "_law_set" s23 [] (fa 23) (fd 23)
  g24 : mg "_law_is" = some (.ref (fa 24))
  F24 : FD K "_law_is" "_law_is" s24 [] (fa 24) (fd 24)
  me5 : Meth K (ca 3) "text" (fa 5)
  g25 : mg "_law_members" = some (.ref (fa 25))
  F25 : FD K "_law_members" "_law_members" s25 [] (fa 25) (fd 25)
  g26 : mg "_law_results" = some (.ref (fa 26))
  F26 : FD K "_law_results" "_law_results" s26 [] (fa 26) (fd 26)
  me12 : Meth K (ca 3) "__xor__" (fa 12)
  me13 : Meth K (ca 3) "__invert__" (fa 13)
  g27 : mg "_law_equal" = some (.ref (fa 27))
  F27 : FD K "_law_equal" "_law_equal" s27 [] (fa 27) (fd 27)
  me14 : Meth K (ca 3) "__le__" (fa 14)
  g28 : mg "_law_made_right" = some (.ref (fa 28))
  F28 : FD K "_law_made_right" "_law_made_right" s28 [] (fa 28) (fd 28)
  exm2_c0 : PySem.W.exmOne K (.ref (ca 2)) (.ref (ca 0)) = some true
  exm1_c0 : PySem.W.exmOne K (.ref (ca 1)) (.ref (ca 0)) = some true
  mgc0 : mg "BureauError" = some (.ref (ca 0))
  kitx2_c1 : PySem.W.kitOne K (.ref (ca 2)) (.ref (ca 1)) = some false
  xc2 : ExcC K (ca 2)
  xi2 : (PySem.W.clsIn K (ca 2)).isSome = true
  kitx1_c1 : PySem.W.kitOne K (.ref (ca 1)) (.ref (ca 1)) = some true
  xc1 : ExcC K (ca 1)
  xi1 : (PySem.W.clsIn K (ca 1)).isSome = true
  kitx2_c2 : PySem.W.kitOne K (.ref (ca 2)) (.ref (ca 2)) = some true
  kitx1_c2 : PySem.W.kitOne K (.ref (ca 1)) (.ref (ca 2)) = some false
  z_ValueError : mg "ValueError" = none
  kitx2_ValueError : PySem.W.kitOne K (.ref (ca 2)) (.type "ValueError") = some true
  kitx1_ValueError : PySem.W.kitOne K (.ref (ca 1)) (.type "ValueError") = some true
  xf1 : XfC K (ca 1)
  g29 : mg "_law_read_right" = some (.ref (fa 29))
  F29 : FD K "_law_read_right" "_law_read_right" s29 [] (fa 29) (fd 29)
  xf2 : XfC K (ca 2)
  g30 : mg "law" = some (.ref (fa 30))
  F30 : FD K "law" "law" s30 [] (fa 30) (fd 30)
theorem bd0 {K : PySem.W.Frag} {mg : Str → Option Value} {ca fa pa : Nat → Addr} {fd : Nat → FuncData} (T : Txt K mg ca fa pa fd) : BD K (fd 0) ["self", "given"] [] := Mi.bd0 (ps := ["self", "given"]) T.F0 fun _ _ _ _ _ _ us hl => match us, hl with | [_, _], _ => rfl
theorem bd1 {K : PySem.W.Frag} {mg : Str → Option Value} {ca fa pa : Nat → Addr} {fd : Nat → FuncData} (T : Txt K mg ca fa pa fd) : BD K (fd 1) ["self", "at"] [] := Mi.bd0 (ps := ["self", "at"]) T.F1 fun _ _ _ _ _ _ us hl => match us, hl with | [_, _], _ => rfl
theorem bd2 {K : PySem.W.Frag} {mg : Str → Option Value} {ca fa pa : Nat → Addr} {fd : Nat → FuncData} (T : Txt K mg ca fa pa fd) : BD K (fd 2) ["thing"] [] := Mi.bd0 (ps := ["thing"]) T.F2 fun _ _ _ _ _ _ us hl => match us, hl with | [_], _ => rfl
theorem bd3 {K : PySem.W.Frag} {mg : Str → Option Value} {ca fa pa : Nat → Addr} {fd : Nat → FuncData} (T : Txt K mg ca fa pa fd) : BD K (fd 3) ["letters"] [] := Mi.bd0 (ps := ["letters"]) T.F3 fun _ _ _ _ _ _ us hl => match us, hl with | [_], _ => rfl
theorem bd4_0 {K : PySem.W.Frag} {mg : Str → Option Value} {ca fa pa : Nat → Addr} {fd : Nat → FuncData} (T : Txt K mg ca fa pa fd) : BD K (fd 4) ["self", "letters"] [] := FunD.binds1 (ps := ["self", "letters"]) T.F4 2 1 (by intro z; cases z) rfl fun _ _ _ _ _ _ _ us its h1 h2 => match us, h1, its, h2 with | [_, _], _, [_], _ => ⟨_, rfl, rfl⟩
theorem bd4_1 {K : PySem.W.Frag} {mg : Str → Option Value} {ca fa pa : Nat → Addr} {fd : Nat → FuncData} (T : Txt K mg ca fa pa fd) : BD K (fd 4) ["self", "letters"] [(V.str "")] := FunD.binds1 (ps := ["self", "letters"]) T.F4 1 0 (by intro z; cases z) rfl fun _ _ _ _ _ _ _ us its h1 h2 => match us, h1, its, h2 with | [_], _, [_], _ => ⟨_, rfl, rfl⟩
theorem bd5 {K : PySem.W.Frag} {mg : Str → Option Value} {ca fa pa : Nat → Addr} {fd : Nat → FuncData} (T : Txt K mg ca fa pa fd) : BD K (fd 5) ["self"] [] := Mi.bd0 (ps := ["self"]) T.F5 fun _ _ _ _ _ _ us hl => match us, hl with | [_], _ => rfl
theorem bd6 {K : PySem.W.Frag} {mg : Str → Option Value} {ca fa pa : Nat → Addr} {fd : Nat → FuncData} (T : Txt K mg ca fa pa fd) : BD K (fd 6) ["self"] [] := Mi.bd0 (ps := ["self"]) T.F6 fun _ _ _ _ _ _ us hl => match us, hl with | [_], _ => rfl
theorem bd7 {K : PySem.W.Frag} {mg : Str → Option Value} {ca fa pa : Nat → Addr} {fd : Nat → FuncData} (T : Txt K mg ca fa pa fd) : BD K (fd 7) ["self"] [] := Mi.bd0 (ps := ["self"]) T.F7 fun _ _ _ _ _ _ us hl => match us, hl with | [_], _ => rfl
theorem bd8 {K : PySem.W.Frag} {mg : Str → Option Value} {ca fa pa : Nat → Addr} {fd : Nat → FuncData} (T : Txt K mg ca fa pa fd) : BD K (fd 8) ["self", "mark"] [] := Mi.bd0 (ps := ["self", "mark"]) T.F8 fun _ _ _ _ _ _ us hl => match us, hl with | [_, _], _ => rfl
theorem bd9 {K : PySem.W.Frag} {mg : Str → Option Value} {ca fa pa : Nat → Addr} {fd : Nat → FuncData} (T : Txt K mg ca fa pa fd) : BD K (fd 9) ["self", "other"] [] := Mi.bd0 (ps := ["self", "other"]) T.F9 fun _ _ _ _ _ _ us hl => match us, hl with | [_, _], _ => rfl
theorem bd10 {K : PySem.W.Frag} {mg : Str → Option Value} {ca fa pa : Nat → Addr} {fd : Nat → FuncData} (T : Txt K mg ca fa pa fd) : BD K (fd 10) ["self", "other"] [] := Mi.bd0 (ps := ["self", "other"]) T.F10 fun _ _ _ _ _ _ us hl => match us, hl with | [_, _], _ => rfl
theorem bd11 {K : PySem.W.Frag} {mg : Str → Option Value} {ca fa pa : Nat → Addr} {fd : Nat → FuncData} (T : Txt K mg ca fa pa fd) : BD K (fd 11) ["self", "other"] [] := Mi.bd0 (ps := ["self", "other"]) T.F11 fun _ _ _ _ _ _ us hl => match us, hl with | [_, _], _ => rfl
theorem bd12 {K : PySem.W.Frag} {mg : Str → Option Value} {ca fa pa : Nat → Addr} {fd : Nat → FuncData} (T : Txt K mg ca fa pa fd) : BD K (fd 12) ["self", "other"] [] := Mi.bd0 (ps := ["self", "other"]) T.F12 fun _ _ _ _ _ _ us hl => match us, hl with | [_, _], _ => rfl
theorem bd13 {K : PySem.W.Frag} {mg : Str → Option Value} {ca fa pa : Nat → Addr} {fd : Nat → FuncData} (T : Txt K mg ca fa pa fd) : BD K (fd 13) ["self"] [] := Mi.bd0 (ps := ["self"]) T.F13 fun _ _ _ _ _ _ us hl => match us, hl with | [_], _ => rfl
theorem bd14 {K : PySem.W.Frag} {mg : Str → Option Value} {ca fa pa : Nat → Addr} {fd : Nat → FuncData} (T : Txt K mg ca fa pa fd) : BD K (fd 14) ["self", "other"] [] := Mi.bd0 (ps := ["self", "other"]) T.F14 fun _ _ _ _ _ _ us hl => match us, hl with | [_, _], _ => rfl
theorem bd15 {K : PySem.W.Frag} {mg : Str → Option Value} {ca fa pa : Nat → Addr} {fd : Nat → FuncData} (T : Txt K mg ca fa pa fd) : BD K (fd 15) ["self", "other"] [] := Mi.bd0 (ps := ["self", "other"]) T.F15 fun _ _ _ _ _ _ us hl => match us, hl with | [_, _], _ => rfl
theorem bd16 {K : PySem.W.Frag} {mg : Str → Option Value} {ca fa pa : Nat → Addr} {fd : Nat → FuncData} (T : Txt K mg ca fa pa fd) : BD K (fd 16) ["cls", "text"] [] := Mi.bd0 (ps := ["cls", "text"]) T.F16 fun _ _ _ _ _ _ us hl => match us, hl with | [_, _], _ => rfl
theorem bd17 {K : PySem.W.Frag} {mg : Str → Option Value} {ca fa pa : Nat → Addr} {fd : Nat → FuncData} (T : Txt K mg ca fa pa fd) : BD K (fd 17) ["_law_script"] [] := Mi.bd0 (ps := ["_law_script"]) T.F17 fun _ _ _ _ _ _ us hl => match us, hl with | [_], _ => rfl
theorem bd18 {K : PySem.W.Frag} {mg : Str → Option Value} {ca fa pa : Nat → Addr} {fd : Nat → FuncData} (T : Txt K mg ca fa pa fd) : BD K (fd 18) ["_law_pool", "_law_many"] [] := Mi.bd0 (ps := ["_law_pool", "_law_many"]) T.F18 fun _ _ _ _ _ _ us hl => match us, hl with | [_, _], _ => rfl
theorem bd19 {K : PySem.W.Frag} {mg : Str → Option Value} {ca fa pa : Nat → Addr} {fd : Nat → FuncData} (T : Txt K mg ca fa pa fd) : BD K (fd 19) ["_law_pool"] [] := Mi.bd0 (ps := ["_law_pool"]) T.F19 fun _ _ _ _ _ _ us hl => match us, hl with | [_], _ => rfl
theorem bd20 {K : PySem.W.Frag} {mg : Str → Option Value} {ca fa pa : Nat → Addr} {fd : Nat → FuncData} (T : Txt K mg ca fa pa fd) : BD K (fd 20) ["_law_pool", "_law_first"] [] := Mi.bd0 (ps := ["_law_pool", "_law_first"]) T.F20 fun _ _ _ _ _ _ us hl => match us, hl with | [_, _], _ => rfl
theorem bd21 {K : PySem.W.Frag} {mg : Str → Option Value} {ca fa pa : Nat → Addr} {fd : Nat → FuncData} (T : Txt K mg ca fa pa fd) : BD K (fd 21) ["_law_pool"] [] := Mi.bd0 (ps := ["_law_pool"]) T.F21 fun _ _ _ _ _ _ us hl => match us, hl with | [_], _ => rfl
theorem bd22 {K : PySem.W.Frag} {mg : Str → Option Value} {ca fa pa : Nat → Addr} {fd : Nat → FuncData} (T : Txt K mg ca fa pa fd) : BD K (fd 22) ["_law_pool", "_law_text"] [] := Mi.bd0 (ps := ["_law_pool", "_law_text"]) T.F22 fun _ _ _ _ _ _ us hl => match us, hl with | [_, _], _ => rfl
theorem bd23 {K : PySem.W.Frag} {mg : Str → Option Value} {ca fa pa : Nat → Addr} {fd : Nat → FuncData} (T : Txt K mg ca fa pa fd) : BD K (fd 23) ["_law_text"] [] := Mi.bd0 (ps := ["_law_text"]) T.F23 fun _ _ _ _ _ _ us hl => match us, hl with | [_], _ => rfl
theorem bd24 {K : PySem.W.Frag} {mg : Str → Option Value} {ca fa pa : Nat → Addr} {fd : Nat → FuncData} (T : Txt K mg ca fa pa fd) : BD K (fd 24) ["_law_marks", "_law_due"] [] := Mi.bd0 (ps := ["_law_marks", "_law_due"]) T.F24 fun _ _ _ _ _ _ us hl => match us, hl with | [_, _], _ => rfl
theorem bd25 {K : PySem.W.Frag} {mg : Str → Option Value} {ca fa pa : Nat → Addr} {fd : Nat → FuncData} (T : Txt K mg ca fa pa fd) : BD K (fd 25) ["_law_marks", "_law_due", "_law_longer"] [] := Mi.bd0 (ps := ["_law_marks", "_law_due", "_law_longer"]) T.F25 fun _ _ _ _ _ _ us hl => match us, hl with | [_, _, _], _ => rfl
theorem bd26 {K : PySem.W.Frag} {mg : Str → Option Value} {ca fa pa : Nat → Addr} {fd : Nat → FuncData} (T : Txt K mg ca fa pa fd) : BD K (fd 26) ["_law_a", "_law_b", "_law_one", "_law_two"] [] := Mi.bd0 (ps := ["_law_a", "_law_b", "_law_one", "_law_two"]) T.F26 fun _ _ _ _ _ _ us hl => match us, hl with | [_, _, _, _], _ => rfl
theorem bd27 {K : PySem.W.Frag} {mg : Str → Option Value} {ca fa pa : Nat → Addr} {fd : Nat → FuncData} (T : Txt K mg ca fa pa fd) : BD K (fd 27) ["_law_a", "_law_b", "_law_one", "_law_two"] [] := Mi.bd0 (ps := ["_law_a", "_law_b", "_law_one", "_law_two"]) T.F27 fun _ _ _ _ _ _ us hl => match us, hl with | [_, _, _, _], _ => rfl
theorem bd28 {K : PySem.W.Frag} {mg : Str → Option Value} {ca fa pa : Nat → Addr} {fd : Nat → FuncData} (T : Txt K mg ca fa pa fd) : BD K (fd 28) ["_law_text"] [] := Mi.bd0 (ps := ["_law_text"]) T.F28 fun _ _ _ _ _ _ us hl => match us, hl with | [_], _ => rfl
theorem bd29 {K : PySem.W.Frag} {mg : Str → Option Value} {ca fa pa : Nat → Addr} {fd : Nat → FuncData} (T : Txt K mg ca fa pa fd) : BD K (fd 29) ["_law_text"] [] := Mi.bd0 (ps := ["_law_text"]) T.F29 fun _ _ _ _ _ _ us hl => match us, hl with | [_], _ => rfl
theorem bd30 {K : PySem.W.Frag} {mg : Str → Option Value} {ca fa pa : Nat → Addr} {fd : Nat → FuncData} (T : Txt K mg ca fa pa fd) : BD K (fd 30) ["_law_script"] [] := Mi.bd0 (ps := ["_law_script"]) T.F30 fun _ _ _ _ _ _ us hl => match us, hl with | [_], _ => rfl
def b2 : SM :=
  (sRet (eAnd (truD []) (eIsi (fun t => List.lookup t [(.non, false), (.bl, false), (.int, false), (.str, true), (.lst, false), (.tup, false), (.own 3, false)]) (eVar 0)) (eAnd (truD []) (eOp (eqD [] (nfL [])) (eCall (lenD []) (aCons (eVar 0) aNil)) (eC (.int 1))) (eOp (inD [] (truD []) false) (eVar 0) (eC (D.str "abcdef"))))))
def m2 : List D → M D := runBody 1 b2
def b3 : SM :=
  (sRet (eBm "str" joinD (eC (.str "")) (aCons (eL (lComp (iVal (eC (D.str "abcdef"))) (gN 1) (tVal (truD []) (eOp (inD [] (truD []) false) (eVar 1) (eVar 0))) (eVar 1) [1])) aNil)))
def m3 : List D → M D := runBody 2 b3
def b4 : SM :=
  (sSeq (sIf (tNotM (tVal (truD []) (eCall (allD true) (aCons (eL (lComp (iVal (eVar 1)) (gN 2) tYesM (eCall (mCall 1 [] m2) (aCons (eVar 2) aNil)) [2])) aNil)))) (sRaise 1 1 ["given"] (aCons (eVar 1) aNil)) sNil)
  (sFldO [3] 0 "letters" (eCall (mCall 1 [] m3) (aCons (eVar 1) aNil))))
def mi4 : List D → M Fs := runInit 3 3 b4
def b5 : SM :=
  (sRet (eOr (truD []) (eFld [3] "letters" (eVar 0)) (eC (.str "-"))))
def m5 : List D → M D := runBody 1 b5
def b6 : SM :=
  (sRet (eCall (lenD []) (aCons (eFld [3] "letters" (eVar 0)) aNil)))
def m6 : List D → M D := runBody 1 b6
def b8 : SM :=
  (sRet (eAnd (truD [(3, m6)]) (eCall (mCall 1 [] m2) (aCons (eVar 1) aNil)) (eOp (inD [] (truD [(3, m6)]) false) (eVar 1) (eFld [3] "letters" (eVar 0)))))
def m8 : List D → M D := runBody 2 b8
def b9 : SM :=
  (sRet (eCall (mNew 3 1 [] mi4) (aCons (eBm "str" joinD (eC (.str "")) (aCons (eL (lComp (iOwn [(3, "letters")] (eFld [3] "letters" (eVar 0))) (gN 2) (tVal (truD [(3, m6)]) (eOp (inD [(3, m8)] (truD [(3, m6)]) false) (eVar 2) (eFld [3] "letters" (eVar 1)))) (eVar 2) [2])) aNil)) aNil)))
def m9 : List D → M D := runBody 3 b9
def b10 : SM :=
  (sRet (eCall (mNew 3 1 [] mi4) (aCons (eOp (opAdd []) (eFld [3] "letters" (eVar 0)) (eFld [3] "letters" (eVar 1))) aNil)))
def m10 : List D → M D := runBody 2 b10
def b11 : SM :=
  (sRet (eCall (mNew 3 1 [] mi4) (aCons (eBm "str" joinD (eC (.str "")) (aCons (eL (lComp (iOwn [(3, "letters")] (eFld [3] "letters" (eVar 0))) (gN 2) (tVal (truD [(3, m6)]) (eOp (inD [(3, m8)] (truD [(3, m6)]) true) (eVar 2) (eFld [3] "letters" (eVar 1)))) (eVar 2) [2])) aNil)) aNil)))
def m11 : List D → M D := runBody 3 b11
def b12 : SM :=
  (sRet (eOp (opSub [(3, m11)]) (eOp (ownOp [(3, m10)]) (eVar 0) (eVar 1)) (eOp (ownOp [(3, m9)]) (eVar 0) (eVar 1))))
def m12 : List D → M D := runBody 2 b12
def b13 : SM :=
  (sRet (eCall (mNew 3 1 [] mi4) (aCons (eBm "str" joinD (eC (.str "")) (aCons (eL (lComp (iOwn [(3, "letters")] (eC (D.str "abcdef"))) (gN 1) (tVal (truD [(3, m6)]) (eOp (inD [(3, m8)] (truD [(3, m6)]) true) (eVar 1) (eFld [3] "letters" (eVar 0)))) (eVar 1) [1])) aNil)) aNil)))
def m13 : List D → M D := runBody 2 b13
def b14 : SM :=
  (sRet (eCall (allD true) (aCons (eL (lComp (iOwn [(3, "letters")] (eFld [3] "letters" (eVar 0))) (gN 2) tYesM (eOp (inD [(3, m8)] (truD [(3, m6)]) false) (eVar 2) (eFld [3] "letters" (eVar 1))) [2])) aNil)))
def m14 : List D → M D := runBody 3 b14
def b15 : SM :=
  (sRet (eAnd (truD [(3, m6)]) (eIsi (fun t => List.lookup t [(.non, false), (.bl, false), (.int, false), (.str, false), (.lst, false), (.tup, false), (.own 3, true)]) (eVar 1)) (eOp (eqD [] (nfL [])) (eFld [3] "letters" (eVar 0)) (eFld [3] "letters" (eVar 1)))))
def m15 : List D → M D := runBody 2 b15
def b16 : SM :=
  (sSeq (sSet 2 (eCall (mCall 1 [] m3) (aCons (eVar 1) aNil)))
  (sSeq (sIf (tVal (truD [(3, m6)]) (eOp neD (eVar 1) (eOr (truD [(3, m6)]) (eVar 2) (eC (.str "-"))))) (sRaise 2 1 ["at"] (aCons (eC (.int 0)) aNil)) sNil)
  (sRet (eCls [(3, (mNew 3 1 [] mi4))] 0 (aCons (eVar 2) aNil)))))
def m16 : List D → M D := runBody 3 b16
def b17 : SM :=
  (sSeq (sSet 1 (eCel (lLst aNil)))
  (sSeq (sFor (iOwn [(3, "letters")] (eVar 0)) (gN 2) (sSeq (sSet 3 (eCall absD (aCons (eCall intD (aCons (eVar 2) aNil)) aNil)))
  (sIf (tVal (truD [(3, m6)]) (eOp (cmpI fun i j => decide (i < j)) (eVar 3) (eOp opPow (eC (.int 10)) (eC (.int 18))))) (sFor (iR1 (aCons (eC (.int 8)) aNil)) (gN 4) (sSeq (sSet 5 (eOp opMod (eCall intD (aCons (eOp (opAdd []) (eOp (opAdd []) (eOp (opMul []) (eVar 2) (eC (.int 7919))) (eOp (opMul []) (eVar 4) (eC (.int 104729)))) (eC (.int 17))) aNil)) (eC (.int 65521))))
  (sExpr (eBm "list" appD (eVar 1) (aCons (eOp opMod (eCall intD (aCons (eOp (opAdd []) (eOp (opAdd []) (eOp (opMul []) (eVar 5) (eVar 5)) (eOp (opMul []) (eVar 4) (eC (.int 31)))) (eOp opFdv (eVar 3) (eC (.int 97)))) aNil)) (eC (.int 1000003))) aNil))))) (sFor (iR1 (aCons (eC (.int 60)) aNil)) (gN 4) (sIf (tVal (truD [(3, m6)]) (eOp (cmpI fun i j => decide (j < i)) (eVar 3) (eC (.int 0)))) (sSeq (sExpr (eBm "list" appD (eVar 1) (aCons (eOp opMod (eCall intD (aCons (eVar 3) aNil)) (eC (.int 1000000))) aNil)))
  (sSet 3 (eOp opFdv (eVar 3) (eC (.int 1000000))))) sNil)))))
  (sRet (eVar 1))))
def m17 : List D → M D := runBody 6 b17
def b18 : SM :=
  (sSeq (sIf (tVal (truD [(3, m6)]) (eOp (eqD [(3, m15)] (nfL [((3, .non), true), ((3, .bl), true), ((3, .int), true), ((3, .str), true), ((3, .lst), true), ((3, .tup), true), ((3, .own 3), true)])) (eVar 0) (eL (lLst aNil)))) (sRet (eC (.int 0))) sNil)
  (sRet (eOp opMod (eCall intD (aCons (eBm "list" popD (eVar 0) (aCons (eC (.int 0)) aNil)) aNil)) (eVar 1))))
def m18 : List D → M D := runBody 2 b18
def b19 : SM :=
  (sSeq (sSet 1 (eOp opMod (eOp (opAdd []) (eC (.int 2)) (eCall (mCall 2 [] m18) (aCons (eVar 0) (aCons (eC (.int 9)) aNil)))) (eC (.int 9))))
  (sSeq (sIf (tVal (truD [(3, m6)]) (eOp (eqD [(3, m15)] (nfL [((3, .non), true), ((3, .bl), true), ((3, .int), true), ((3, .str), true), ((3, .lst), true), ((3, .tup), true), ((3, .own 3), true)])) (eCall (mCall 2 [] m18) (aCons (eVar 0) (aCons (eC (.int 8)) aNil))) (eC (.int 7)))) (sSet 1 (eOp (opAdd []) (eVar 1) (eC (.int 30)))) sNil)
  (sRet (eBm "str" joinD (eC (.str "")) (aCons (eL (lComp (iR1 (aCons (eVar 1) aNil)) (gN 2) tYesM (eOp ixD (eC (.str "abcdef")) (eCall (mCall 2 [] m18) (aCons (eVar 0) (aCons (eC (.int 6)) aNil)))) [2])) aNil)))))
def m19 : List D → M D := runBody 3 b19
def b20 : SM :=
  (sSeq (sSet 2 (eCall (mCall 2 [] m18) (aCons (eVar 0) (aCons (eC (.int 5)) aNil))))
  (sSeq (sIf (tVal (truD [(3, m6)]) (eOp (eqD [(3, m15)] (nfL [((3, .non), true), ((3, .bl), true), ((3, .int), true), ((3, .str), true), ((3, .lst), true), ((3, .tup), true), ((3, .own 3), true)])) (eVar 2) (eC (.int 1)))) (sRet (eUn revD (eVar 1))) sNil)
  (sSeq (sIf (tVal (truD [(3, m6)]) (eOp (eqD [(3, m15)] (nfL [((3, .non), true), ((3, .bl), true), ((3, .int), true), ((3, .str), true), ((3, .lst), true), ((3, .tup), true), ((3, .own 3), true)])) (eVar 2) (eC (.int 2)))) (sRet (eSl slD (eVar 1) (pSome (eCall (mCall 2 [] m18) (aCons (eVar 0) (aCons (eOp (opAdd []) (eCall (lenD [(3, m6)]) (aCons (eVar 1) aNil)) (eC (.int 1))) aNil)))) pNone)) sNil)
  (sSeq (sIf (tVal (truD [(3, m6)]) (eOp (eqD [(3, m15)] (nfL [((3, .non), true), ((3, .bl), true), ((3, .int), true), ((3, .str), true), ((3, .lst), true), ((3, .tup), true), ((3, .own 3), true)])) (eVar 2) (eC (.int 3)))) (sRet (eOp (opAdd []) (eVar 1) (eCall (mCall 1 [] m19) (aCons (eVar 0) aNil)))) sNil)
  (sSeq (sIf (tVal (truD [(3, m6)]) (eOp (eqD [(3, m15)] (nfL [((3, .non), true), ((3, .bl), true), ((3, .int), true), ((3, .str), true), ((3, .lst), true), ((3, .tup), true), ((3, .own 3), true)])) (eVar 2) (eC (.int 4)))) (sRet (eBm "str" joinD (eC (.str "")) (aCons (eL (lComp (iOwn [(3, "letters")] (eC (.str "fedcba"))) (gN 3) (tVal (truD [(3, m6)]) (eOp (inD [(3, m8)] (truD [(3, m6)]) true) (eVar 3) (eVar 1))) (eVar 3) [3])) aNil))) sNil)
  (sRet (eCall (mCall 1 [] m19) (aCons (eVar 0) aNil))))))))
def m20 : List D → M D := runBody 4 b20
def b21 : SM :=
  (sSeq (sSet 1 (eC (.str " !\"#$&'()*+,-./0123456789:;<=>?@ABCDEFGHIJKLMNOPQRSTUVWXYZ[\\]^_`")))
  (sSeq (sSet 1 (eOp (opAdd []) (eVar 1) (eC (.str "abcdefghijklmnopqrstuvwxyz{|}~\n"))))
  (sRet (eOp ixD (eVar 1) (eCall (mCall 2 [] m18) (aCons (eVar 0) (aCons (eC (.int 95)) aNil)))))))
def m21 : List D → M D := runBody 2 b21
def b22 : SM :=
  (sSeq (sSet 2 (eCall (mCall 2 [] m18) (aCons (eVar 0) (aCons (eC (.int 6)) aNil))))
  (sSeq (sSet 3 (eCall (mCall 2 [] m18) (aCons (eVar 0) (aCons (eOp (opAdd []) (eCall (lenD [(3, m6)]) (aCons (eVar 1) aNil)) (eC (.int 1))) aNil))))
  (sSeq (sSet 4 (eCall (mCall 1 [] m21) (aCons (eVar 0) aNil)))
  (sSeq (sSet 5 (eSl slD (eVar 1) (pSome (eVar 3)) (pSome (eOp (opAdd []) (eVar 3) (eC (.int 1))))))
  (sSeq (sIf (tVal (truD [(3, m6)]) (eOp (eqD [(3, m15)] (nfL [((3, .non), true), ((3, .bl), true), ((3, .int), true), ((3, .str), true), ((3, .lst), true), ((3, .tup), true), ((3, .own 3), true)])) (eVar 2) (eC (.int 0)))) (sRet (eOp (opAdd []) (eOp (opAdd []) (eSl slD (eVar 1) pNone (pSome (eVar 3))) (eVar 4)) (eSl slD (eVar 1) (pSome (eVar 3)) pNone))) sNil)
  (sSeq (sIf (tVal (truD [(3, m6)]) (eOp (eqD [(3, m15)] (nfL [((3, .non), true), ((3, .bl), true), ((3, .int), true), ((3, .str), true), ((3, .lst), true), ((3, .tup), true), ((3, .own 3), true)])) (eVar 2) (eC (.int 1)))) (sRet (eOp (opAdd []) (eSl slD (eVar 1) pNone (pSome (eVar 3))) (eSl slD (eVar 1) (pSome (eOp (opAdd []) (eVar 3) (eC (.int 1)))) pNone))) sNil)
  (sSeq (sIf (tVal (truD [(3, m6)]) (eOp (eqD [(3, m15)] (nfL [((3, .non), true), ((3, .bl), true), ((3, .int), true), ((3, .str), true), ((3, .lst), true), ((3, .tup), true), ((3, .own 3), true)])) (eVar 2) (eC (.int 2)))) (sRet (eOp (opAdd []) (eOp (opAdd []) (eSl slD (eVar 1) pNone (pSome (eVar 3))) (eVar 5)) (eSl slD (eVar 1) (pSome (eVar 3)) pNone))) sNil)
  (sSeq (sIf (tVal (truD [(3, m6)]) (eOp (eqD [(3, m15)] (nfL [((3, .non), true), ((3, .bl), true), ((3, .int), true), ((3, .str), true), ((3, .lst), true), ((3, .tup), true), ((3, .own 3), true)])) (eVar 2) (eC (.int 3)))) (sRet (eOp (opAdd []) (eOp (opAdd []) (eOp (opAdd []) (eSl slD (eVar 1) pNone (pSome (eVar 3))) (eSl slD (eVar 1) (pSome (eOp (opAdd []) (eVar 3) (eC (.int 1)))) (pSome (eOp (opAdd []) (eVar 3) (eC (.int 2)))))) (eVar 5)) (eSl slD (eVar 1) (pSome (eOp (opAdd []) (eVar 3) (eC (.int 2)))) pNone))) sNil)
  (sSeq (sIf (tVal (truD [(3, m6)]) (eOp (eqD [(3, m15)] (nfL [((3, .non), true), ((3, .bl), true), ((3, .int), true), ((3, .str), true), ((3, .lst), true), ((3, .tup), true), ((3, .own 3), true)])) (eVar 2) (eC (.int 4)))) (sRet (eUn revD (eVar 1))) sNil)
  (sRet (eOp (opAdd []) (eOp (opAdd []) (eSl slD (eVar 1) pNone (pSome (eVar 3))) (eVar 4)) (eSl slD (eVar 1) (pSome (eOp (opAdd []) (eVar 3) (eC (.int 1)))) pNone))))))))))))
def m22 : List D → M D := runBody 6 b22
def b23 : SM :=
  (sRet (eBm "str" joinD (eC (.str "")) (aCons (eL (lComp (iOwn [(3, "letters")] (eC (.str "abcdef"))) (gN 1) (tVal (truD [(3, m6)]) (eOp (inD [(3, m8)] (truD [(3, m6)]) false) (eVar 1) (eVar 0))) (eVar 1) [1])) aNil)))
def m23 : List D → M D := runBody 2 b23
def b24 : SM :=
  (sSeq (sIf (tOrM (tNotM (tVal (truD [(3, m6)]) (eIsi (fun t => List.lookup t [(.non, false), (.bl, false), (.int, false), (.str, false), (.lst, false), (.tup, false), (.own 3, true)]) (eVar 0)))) (tNotM (tVal (truD [(3, m6)]) (eIsi (fun t => List.lookup t [(.non, false), (.bl, false), (.int, false), (.str, true), (.lst, false), (.tup, false), (.own 3, false)]) (eFld [3] "letters" (eVar 0)))))) (sRet (eC (.bl false))) sNil)
  (sSeq (sIf (tOrM (tVal (truD [(3, m6)]) (eOp neD (eFld [3] "letters" (eVar 0)) (eVar 1))) (tVal (truD [(3, m6)]) (eOp neD (eCall (lenD [(3, m6)]) (aCons (eVar 0) aNil)) (eCall (lenD [(3, m6)]) (aCons (eVar 1) aNil))))) (sRet (eC (.bl false))) sNil)
  (sSeq (sIf (tOrM (tNotM (tVal (truD [(3, m6)]) (eIsi (fun t => List.lookup t [(.non, false), (.bl, false), (.int, false), (.str, true), (.lst, false), (.tup, false), (.own 3, false)]) (eMeth [(3, mCall 1 [] m5)] "text" (eVar 0) aNil)))) (tVal (truD [(3, m6)]) (eOp neD (eMeth [(3, mCall 1 [] m5)] "text" (eVar 0) aNil) (eOp (opAdd []) (eVar 1) (eOp (opMul []) (eC (.str "-")) (eCall intD (aCons (eOp (eqD [(3, m15)] (nfL [((3, .non), true), ((3, .bl), true), ((3, .int), true), ((3, .str), true), ((3, .lst), true), ((3, .tup), true), ((3, .own 3), true)])) (eVar 1) (eC (.str ""))) aNil))))))) (sRet (eC (.bl false))) sNil)
  (sSeq (sIf (tVal (truD [(3, m6)]) (eOp neD (eL (lComp (iOwn [(3, "letters")] (eVar 0)) (gN 2) tYesM (eVar 2) [2])) (eL (lComp (iOwn [(3, "letters")] (eVar 1)) (gN 2) tYesM (eVar 2) [2])))) (sRet (eC (.bl false))) sNil)
  (sRet (eOp (eqD [(3, m15)] (nfL [((3, .non), true), ((3, .bl), true), ((3, .int), true), ((3, .str), true), ((3, .lst), true), ((3, .tup), true), ((3, .own 3), true)])) (eNot (truD [(3, m6)]) (eVar 0)) (eOp (eqD [(3, m15)] (nfL [((3, .non), true), ((3, .bl), true), ((3, .int), true), ((3, .str), true), ((3, .lst), true), ((3, .tup), true), ((3, .own 3), true)])) (eVar 1) (eC (.str "")))))))))
def m24 : List D → M D := runBody 3 b24
def b25 : SM :=
  (sSeq (sFor (iOwn [(3, "letters")] (eC (.str "abcdef"))) (gN 3) (sIf (tVal (truD [(3, m6)]) (eOp neD (eOp (inD [(3, m8)] (truD [(3, m6)]) false) (eVar 3) (eVar 0)) (eOp (inD [(3, m8)] (truD [(3, m6)]) false) (eVar 3) (eVar 1)))) (sRet (eC (.bl false))) sNil))
  (sSeq (sFor (iOwn [(3, "letters")] (eL (lLst (aCons (eC (.str "")) (aCons (eC (.str "-")) (aCons (eC (.str "A")) (aCons (eC (.str "g")) (aCons (eC (.str "aa")) (aCons (eC (.str "ab")) (aCons (eC (.str "fa")) (aCons (eC (.str "a\n")) (aCons (eC (.str "abcdef")) (aCons (eOp (opAdd []) (eVar 2) (eC (.str "a-"))) aNil))))))))))))) (gN 4) (sIf (tVal (truD [(3, m6)]) (eOp (inD [(3, m8)] (truD [(3, m6)]) false) (eVar 4) (eVar 0))) (sRet (eC (.bl false))) sNil))
  (sRet (eC (.bl true)))))
def m25 : List D → M D := runBody 5 b25
def b26 : SM :=
  (sSeq (sSet 4 (eBm "str" joinD (eC (.str "")) (aCons (eL (lComp (iOwn [(3, "letters")] (eVar 2)) (gN 13) (tVal (truD [(3, m6)]) (eOp (inD [(3, m8)] (truD [(3, m6)]) false) (eVar 13) (eVar 3))) (eVar 13) [13])) aNil)))
  (sSeq (sSet 5 (eBm "str" joinD (eC (.str "")) (aCons (eL (lComp (iOwn [(3, "letters")] (eVar 2)) (gN 13) (tVal (truD [(3, m6)]) (eOp (inD [(3, m8)] (truD [(3, m6)]) true) (eVar 13) (eVar 3))) (eVar 13) [13])) aNil)))
  (sSeq (sSet 6 (eBm "str" joinD (eC (.str "")) (aCons (eL (lComp (iOwn [(3, "letters")] (eVar 3)) (gN 13) (tVal (truD [(3, m6)]) (eOp (inD [(3, m8)] (truD [(3, m6)]) true) (eVar 13) (eVar 2))) (eVar 13) [13])) aNil)))
  (sSeq (sSet 7 (eCall (mCall 1 [] m23) (aCons (eOp (opAdd []) (eVar 2) (eVar 3)) aNil)))
  (sSeq (sSet 8 (eCall (mCall 1 [] m23) (aCons (eOp (opAdd []) (eVar 5) (eVar 6)) aNil)))
  (sSeq (sSet 9 (eBm "str" joinD (eC (.str "")) (aCons (eL (lComp (iOwn [(3, "letters")] (eC (.str "abcdef"))) (gN 13) (tVal (truD [(3, m6)]) (eOp (inD [(3, m8)] (truD [(3, m6)]) true) (eVar 13) (eVar 2))) (eVar 13) [13])) aNil)))
  (sSeq (sSet 10 (eL (lLst (aCons (eTup (aCons (eOp (ownOp [(3, m9)]) (eVar 0) (eVar 1)) (aCons (eVar 4) aNil))) (aCons (eTup (aCons (eOp (ownOp [(3, m9)]) (eVar 1) (eVar 0)) (aCons (eVar 4) aNil))) (aCons (eTup (aCons (eOp (ownOp [(3, m9)]) (eVar 0) (eVar 0)) (aCons (eVar 2) aNil))) aNil))))))
  (sSeq (sSet 10 (eOp (opAdd []) (eVar 10) (eL (lLst (aCons (eTup (aCons (eOp (ownOp [(3, m10)]) (eVar 0) (eVar 1)) (aCons (eVar 7) aNil))) (aCons (eTup (aCons (eOp (ownOp [(3, m10)]) (eVar 1) (eVar 0)) (aCons (eVar 7) aNil))) aNil))))))
  (sSeq (sSet 10 (eOp (opAdd []) (eVar 10) (eL (lLst (aCons (eTup (aCons (eOp (opSub [(3, m11)]) (eVar 0) (eVar 1)) (aCons (eVar 5) aNil))) (aCons (eTup (aCons (eOp (opSub [(3, m11)]) (eVar 1) (eVar 0)) (aCons (eVar 6) aNil))) aNil))))))
  (sSeq (sSet 10 (eOp (opAdd []) (eVar 10) (eL (lLst (aCons (eTup (aCons (eOp (opSub [(3, m11)]) (eVar 0) (eVar 0)) (aCons (eC (.str "")) aNil))) (aCons (eTup (aCons (eOp (ownOp [(3, m10)]) (eVar 0) (eVar 0)) (aCons (eVar 2) aNil))) aNil))))))
  (sSeq (sSet 10 (eOp (opAdd []) (eVar 10) (eL (lLst (aCons (eTup (aCons (eOp (ownOp [(3, m12)]) (eVar 0) (eVar 1)) (aCons (eVar 8) aNil))) (aCons (eTup (aCons (eOp (ownOp [(3, m12)]) (eVar 1) (eVar 0)) (aCons (eVar 8) aNil))) (aCons (eTup (aCons (eOp (ownOp [(3, m12)]) (eVar 0) (eVar 0)) (aCons (eC (.str "")) aNil))) aNil)))))))
  (sSeq (sSet 10 (eOp (opAdd []) (eVar 10) (eL (lLst (aCons (eTup (aCons (eUn (ownUn [(3, m13)]) (eVar 0)) (aCons (eVar 9) aNil))) (aCons (eTup (aCons (eUn (ownUn [(3, m13)]) (eUn (ownUn [(3, m13)]) (eVar 0))) (aCons (eVar 2) aNil))) (aCons (eTup (aCons (eOp (ownOp [(3, m10)]) (eVar 0) (eUn (ownUn [(3, m13)]) (eVar 0))) (aCons (eC (.str "abcdef")) aNil))) aNil)))))))
  (sSeq (sFor (iOwn [(3, "letters")] (eOp (opAdd []) (eVar 10) (eL (lLst (aCons (eTup (aCons (eOp (ownOp [(3, m9)]) (eVar 0) (eUn (ownUn [(3, m13)]) (eVar 0))) (aCons (eC (.str "")) aNil))) (aCons (eTup (aCons (eOp (opSub [(3, m11)]) (eVar 1) (eUn (ownUn [(3, m13)]) (eVar 0))) (aCons (eVar 4) aNil))) aNil)))))) (gT [(gN 11), (gN 12)]) (sIf (tNotM (tVal (truD [(3, m6)]) (eCall (mCall 2 [] m24) (aCons (eVar 11) (aCons (eVar 12) aNil))))) (sRet (eC (.bl false))) sNil))
  (sRet (eC (.bl true))))))))))))))))
def m26 : List D → M D := runBody 14 b26
def b27 : SM :=
  (sSeq (sSet 4 (eOp (eqD [(3, m15)] (nfL [((3, .non), true), ((3, .bl), true), ((3, .int), true), ((3, .str), true), ((3, .lst), true), ((3, .tup), true), ((3, .own 3), true)])) (eL (lComp (iOwn [(3, "letters")] (eVar 2)) (gN 9) (tVal (truD [(3, m6)]) (eOp (inD [(3, m8)] (truD [(3, m6)]) true) (eVar 9) (eVar 3))) (eVar 9) [9])) (eL (lLst aNil))))
  (sSeq (sSet 5 (eOp (eqD [(3, m15)] (nfL [((3, .non), true), ((3, .bl), true), ((3, .int), true), ((3, .str), true), ((3, .lst), true), ((3, .tup), true), ((3, .own 3), true)])) (eL (lComp (iOwn [(3, "letters")] (eVar 3)) (gN 9) (tVal (truD [(3, m6)]) (eOp (inD [(3, m8)] (truD [(3, m6)]) true) (eVar 9) (eVar 2))) (eVar 9) [9])) (eL (lLst aNil))))
  (sSeq (sSet 6 (eL (lLst (aCons (eTup (aCons (eOp (leD [(3, m14)] (nfL [((3, .non), true), ((3, .bl), true), ((3, .int), true), ((3, .str), true), ((3, .lst), true), ((3, .tup), true), ((3, .own 3), true)])) (eVar 0) (eVar 1)) (aCons (eVar 4) aNil))) (aCons (eTup (aCons (eOp (leD [(3, m14)] (nfL [((3, .non), true), ((3, .bl), true), ((3, .int), true), ((3, .str), true), ((3, .lst), true), ((3, .tup), true), ((3, .own 3), true)])) (eVar 1) (eVar 0)) (aCons (eVar 5) aNil))) (aCons (eTup (aCons (eOp (leD [(3, m14)] (nfL [((3, .non), true), ((3, .bl), true), ((3, .int), true), ((3, .str), true), ((3, .lst), true), ((3, .tup), true), ((3, .own 3), true)])) (eVar 0) (eVar 0)) (aCons (eC (.bl true)) aNil))) aNil))))))
  (sSeq (sSet 6 (eOp (opAdd []) (eVar 6) (eL (lLst (aCons (eTup (aCons (eOp (leD [(3, m14)] (nfL [((3, .non), true), ((3, .bl), true), ((3, .int), true), ((3, .str), true), ((3, .lst), true), ((3, .tup), true), ((3, .own 3), true)])) (eCall (mNew 3 1 [(D.str "")] mi4) aNil) (eVar 0)) (aCons (eC (.bl true)) aNil))) (aCons (eTup (aCons (eOp (leD [(3, m14)] (nfL [((3, .non), true), ((3, .bl), true), ((3, .int), true), ((3, .str), true), ((3, .lst), true), ((3, .tup), true), ((3, .own 3), true)])) (eVar 0) (eCall (mNew 3 1 [] mi4) (aCons (eC (.str "fedcba")) aNil))) (aCons (eC (.bl true)) aNil))) aNil))))))
  (sSeq (sSet 6 (eOp (opAdd []) (eVar 6) (eL (lLst (aCons (eTup (aCons (eOp (eqD [(3, m15)] (nfL [((3, .non), true), ((3, .bl), true), ((3, .int), true), ((3, .str), true), ((3, .lst), true), ((3, .tup), true), ((3, .own 3), true)])) (eVar 0) (eVar 1)) (aCons (eOp (eqD [(3, m15)] (nfL [((3, .non), true), ((3, .bl), true), ((3, .int), true), ((3, .str), true), ((3, .lst), true), ((3, .tup), true), ((3, .own 3), true)])) (eVar 2) (eVar 3)) aNil))) (aCons (eTup (aCons (eOp (eqD [(3, m15)] (nfL [((3, .non), true), ((3, .bl), true), ((3, .int), true), ((3, .str), true), ((3, .lst), true), ((3, .tup), true), ((3, .own 3), true)])) (eVar 1) (eVar 0)) (aCons (eOp (eqD [(3, m15)] (nfL [((3, .non), true), ((3, .bl), true), ((3, .int), true), ((3, .str), true), ((3, .lst), true), ((3, .tup), true), ((3, .own 3), true)])) (eVar 2) (eVar 3)) aNil))) aNil))))))
  (sSeq (sSet 6 (eOp (opAdd []) (eVar 6) (eL (lLst (aCons (eTup (aCons (eOp (eqD [(3, m15)] (nfL [((3, .non), true), ((3, .bl), true), ((3, .int), true), ((3, .str), true), ((3, .lst), true), ((3, .tup), true), ((3, .own 3), true)])) (eVar 0) (eVar 0)) (aCons (eC (.bl true)) aNil))) (aCons (eTup (aCons (eOp (eqD [(3, m15)] (nfL [((3, .non), true), ((3, .bl), true), ((3, .int), true), ((3, .str), true), ((3, .lst), true), ((3, .tup), true), ((3, .own 3), true)])) (eVar 0) (eCall (mNew 3 1 [] mi4) (aCons (eVar 2) aNil))) (aCons (eC (.bl true)) aNil))) aNil))))))
  (sSeq (sSet 6 (eOp (opAdd []) (eVar 6) (eL (lLst (aCons (eTup (aCons (eOp (eqD [(3, m15)] (nfL [((3, .non), true), ((3, .bl), true), ((3, .int), true), ((3, .str), true), ((3, .lst), true), ((3, .tup), true), ((3, .own 3), true)])) (eVar 0) (eUn (ownUn [(3, m13)]) (eVar 0))) (aCons (eC (.bl false)) aNil))) (aCons (eTup (aCons (eOp (eqD [(3, m15)] (nfL [((3, .non), true), ((3, .bl), true), ((3, .int), true), ((3, .str), true), ((3, .lst), true), ((3, .tup), true), ((3, .own 3), true)])) (eVar 0) (eVar 2)) (aCons (eC (.bl false)) aNil))) aNil))))))
  (sSeq (sSet 6 (eOp (opAdd []) (eVar 6) (eL (lLst (aCons (eTup (aCons (eOp (eqD [(3, m15)] (nfL [((3, .non), true), ((3, .bl), true), ((3, .int), true), ((3, .str), true), ((3, .lst), true), ((3, .tup), true), ((3, .own 3), true)])) (eVar 0) (eL (lLst (aCons (eVar 2) aNil)))) (aCons (eC (.bl false)) aNil))) (aCons (eTup (aCons (eOp (eqD [(3, m15)] (nfL [((3, .non), true), ((3, .bl), true), ((3, .int), true), ((3, .str), true), ((3, .lst), true), ((3, .tup), true), ((3, .own 3), true)])) (eVar 0) (eC (.int 0))) (aCons (eC (.bl false)) aNil))) aNil))))))
  (sSeq (sFor (iOwn [(3, "letters")] (eVar 6)) (gT [(gN 7), (gN 8)]) (sIf (tVal (truD [(3, m6)]) (eOp neD (eOp (isD false) (eVar 7) (eC (.bl true))) (eVar 8))) (sRet (eC (.bl false))) sNil))
  (sRet (eC (.bl true))))))))))))
def m27 : List D → M D := runBody 10 b27
def b28 : SM :=
  (sSeq (sSet 1 (eOp (eqD [(3, m15)] (nfL [((3, .non), true), ((3, .bl), true), ((3, .int), true), ((3, .str), true), ((3, .lst), true), ((3, .tup), true), ((3, .own 3), true)])) (eL (lComp (iOwn [(3, "letters")] (eVar 0)) (gN 4) (tVal (truD [(3, m6)]) (eOp (inD [(3, m8)] (truD [(3, m6)]) true) (eVar 4) (eC (.str "abcdef")))) (eVar 4) [4])) (eL (lLst aNil))))
  (sSeq (sTry (subL [(1, true), (2, true)]) (some 3) (sSet 2 (eCall (mNew 3 1 [] mi4) (aCons (eVar 0) aNil))) (sSeq (sIf (tOrM (tVal truS (eVar 1)) (tOrM (tNotM (tVal truS (eIsX (subL [(1, true), (2, false)]) 3))) (tVal truS (eIsX (subL [(1, false), (2, true)]) 3)))) (sRet (eC (.bl false))) sNil)
  (sRet (eAnd truS (eIsX (subL [(1, true), (2, true)]) 3) (eOp eqS (eXf [1] 3 "given") (eVar 0))))))
  (sRet (eAnd (truD [(3, m6)]) (eVar 1) (eCall (mCall 2 [] m24) (aCons (eVar 2) (aCons (eCall (mCall 1 [] m23) (aCons (eVar 0) aNil)) aNil)))))))
def m28 : List D → M D := runBody 5 b28
def b29 : SM :=
  (sSeq (sSet 1 (eCall (mCall 1 [] m23) (aCons (eVar 0) aNil)))
  (sSeq (sSet 2 (eOr (truD [(3, m6)]) (eOp (eqD [(3, m15)] (nfL [((3, .non), true), ((3, .bl), true), ((3, .int), true), ((3, .str), true), ((3, .lst), true), ((3, .tup), true), ((3, .own 3), true)])) (eVar 0) (eC (.str "-"))) (eAnd (truD [(3, m6)]) (eOp neD (eVar 0) (eC (.str ""))) (eOp (eqD [(3, m15)] (nfL [((3, .non), true), ((3, .bl), true), ((3, .int), true), ((3, .str), true), ((3, .lst), true), ((3, .tup), true), ((3, .own 3), true)])) (eVar 1) (eVar 0)))))
  (sSeq (sTry (subL [(1, true), (2, true)]) (some 4) (sSet 3 (eCm 3 2 m16 (aCons (eVar 0) aNil))) (sSeq (sIf (tOrM (tVal truS (eVar 2)) (tOrM (tNotM (tVal truS (eIsX (subL [(1, false), (2, true)]) 4))) (tVal truS (eIsX (subL [(1, true), (2, false)]) 4)))) (sRet (eC (.bl false))) sNil)
  (sRet (eAnd truS (eIsX (subL [(1, true), (2, true)]) 4) (eAnd truS (eOp eqS (eXf [2] 4 "at") (eC (.int 0))) (eOp (isD true) (eXf [2] 4 "at") (eC (.bl false))))))))
  (sRet (eAnd (truD [(3, m6)]) (eVar 2) (eCall (mCall 2 [] m24) (aCons (eVar 3) (aCons (eVar 1) aNil))))))))
def m29 : List D → M D := runBody 5 b29
def b30 : SM :=
  (sSeq (sSet 1 (eCall (mCall 1 [] m17) (aCons (eVar 0) aNil)))
  (sSeq (sSet 2 (eCall (mCall 1 [] m19) (aCons (eVar 1) aNil)))
  (sSeq (sSet 3 (eCall (mCall 2 [] m20) (aCons (eVar 1) (aCons (eVar 2) aNil))))
  (sSeq (sSet 4 (eCall (mNew 3 1 [] mi4) (aCons (eVar 2) aNil)))
  (sSeq (sSet 5 (eCall (mNew 3 1 [] mi4) (aCons (eVar 3) aNil)))
  (sSeq (sSet 6 (eCall (mCall 1 [] m23) (aCons (eVar 2) aNil)))
  (sSeq (sSet 7 (eCall (mCall 1 [] m23) (aCons (eVar 3) aNil)))
  (sSeq (sIf (tOrM (tNotM (tVal (truD [(3, m6)]) (eCall (mCall 2 [] m24) (aCons (eVar 4) (aCons (eVar 6) aNil))))) (tOrM (tNotM (tVal (truD [(3, m6)]) (eCall (mCall 2 [] m24) (aCons (eVar 5) (aCons (eVar 7) aNil))))) (tNotM (tVal (truD [(3, m6)]) (eCall (mCall 2 [] m24) (aCons (eCall (mNew 3 1 [(D.str "")] mi4) aNil) (aCons (eC (.str "")) aNil))))))) (sRet (eC (.bl false))) sNil)
  (sSeq (sIf (tOrM (tVal (truD [(3, m6)]) (eOp neD (eC (D.str "abcdef")) (eC (.str "abcdef")))) (tNotM (tVal (truD [(3, m6)]) (eCall (mCall 3 [] m25) (aCons (eVar 4) (aCons (eVar 6) (aCons (eOp (opAdd []) (eVar 2) (eVar 3)) aNil))))))) (sRet (eC (.bl false))) sNil)
  (sSeq (sIf (tOrM (tNotM (tVal (truD [(3, m6)]) (eCall (mCall 4 [] m26) (aCons (eVar 4) (aCons (eVar 5) (aCons (eVar 6) (aCons (eVar 7) aNil))))))) (tNotM (tVal (truD [(3, m6)]) (eCall (mCall 4 [] m27) (aCons (eVar 4) (aCons (eVar 5) (aCons (eVar 6) (aCons (eVar 7) aNil)))))))) (sRet (eC (.bl false))) sNil)
  (sSeq (sSet 8 (eOp (opAdd []) (eVar 6) (eOp (opMul []) (eC (.str "-")) (eCall intD (aCons (eOp (eqD [(3, m15)] (nfL [((3, .non), true), ((3, .bl), true), ((3, .int), true), ((3, .str), true), ((3, .lst), true), ((3, .tup), true), ((3, .own 3), true)])) (eVar 6) (eC (.str ""))) aNil)))))
  (sSeq (sSet 9 (eL (lLst (aCons (eVar 2) (aCons (eVar 3) (aCons (eVar 8) (aCons (eVar 7) (aCons (eC (.str "-")) (aCons (eC (.str "")) (aCons (eOp (opAdd []) (eVar 8) (eC (.str "\n"))) (aCons (eOp (opAdd []) (eC (.str " ")) (eVar 8)) aNil)))))))))))
  (sSeq (sSet 9 (eOp (opAdd []) (eVar 9) (eL (lLst (aCons (eCall (mCall 2 [] m22) (aCons (eVar 1) (aCons (eVar 2) aNil))) (aCons (eCall (mCall 2 [] m22) (aCons (eVar 1) (aCons (eVar 8) aNil))) aNil))))))
  (sSeq (sSet 9 (eOp (opAdd []) (eVar 9) (eL (lLst (aCons (eCall (mCall 2 [] m22) (aCons (eVar 1) (aCons (eC (.str "-")) aNil))) (aCons (eCall (mCall 2 [] m22) (aCons (eVar 1) (aCons (eOp ixD (eVar 9) (eC (.int 9))) aNil))) aNil))))))
  (sSeq (sFor (iOwn [(3, "letters")] (eVar 9)) (gN 10) (sIf (tOrM (tNotM (tVal (truD [(3, m6)]) (eCall (mCall 1 [] m28) (aCons (eVar 10) aNil)))) (tNotM (tVal (truD [(3, m6)]) (eCall (mCall 1 [] m29) (aCons (eVar 10) aNil))))) (sRet (eC (.bl false))) sNil))
  (sRet (eAnd (truD [(3, m6)]) (eCall (mCall 3 [] m25) (aCons (eVar 5) (aCons (eVar 7) (aCons (eVar 3) aNil)))) (eAnd (truD [(3, m6)]) (eCall (mCall 2 [] m24) (aCons (eVar 4) (aCons (eVar 6) aNil))) (eCall (mCall 2 [] m24) (aCons (eVar 5) (aCons (eVar 7) aNil)))))))))))))))))))))
def m30 : List D → M D := runBody 11 b30
end W00

namespace W00
open PySem PySem.Spec PyProof.Rows L2 ClX ItX Mi
theorem ok0 {P : Program} {w : World} {K : PySem.W.Frag} {mg : Str → Option Value} {base : Heap} {ca fa pa : Nat → Addr} {fd : Nat → FuncData} (T : Txt K mg ca fa pa fd) : FnOk P w K mg base (L2.CX P w) 1 (fa 0) (fd 0) ["self", "given"] (spX (ca 1) ["given"]) :=
  x_init1 T.F0 sc0 T.ox1 T.na1_given fun cdv A outer s H E => pss_one (ps_ost (pv 0) (pv 1))
theorem ok1 {P : Program} {w : World} {K : PySem.W.Frag} {mg : Str → Option Value} {base : Heap} {ca fa pa : Nat → Addr} {fd : Nat → FuncData} (T : Txt K mg ca fa pa fd) : FnOk P w K mg base (L2.CX P w) 1 (fa 1) (fd 1) ["self", "at"] (spX (ca 2) ["at"]) :=
  x_init1 T.F1 sc1 T.ox2 T.na2_at fun cdv A outer s H E => pss_one (ps_ost (pv 0) (pv 1))
theorem tr0 {G : Gx} {fa pa : Nat → Addr} {fd : Nat → FuncData} (T : Txt G.X.K G.X.mg G.ca fa pa fd) (tk : Takes G.X G.E) (hr : Room 1 G.X.A) : TrD G (truD []) :=
  td_tru (k := 0) tk hr tb_nil xb_nil
theorem is1 {G : Gx} {fa pa : Nat → Addr} {fd : Nat → FuncData} (T : Txt G.X.K G.X.mg G.ca fa pa fd) : ∀ t b, List.lookup t ([(.non, false), (.bl, false), (.int, false), (.str, true), (.lst, false), (.tup, false), (.own 3, false)] : TagB) = some b → PySem.W.kitOne G.X.K (tagV G.ca t) (.type "str") = some b ∧ ClsOf G.X.K G.ca t :=
  (al_cons ⟨T.kit_non_str, co_no⟩ (al_cons ⟨T.kit_bl_str, co_no⟩ (al_cons ⟨T.kit_int_str, co_no⟩ (al_cons ⟨T.kit_str_str, co_no⟩ (al_cons ⟨T.kit_lst_str, co_no⟩ (al_cons ⟨T.kit_tup_str, co_no⟩ (al_cons ⟨T.kit_o3_str, co_own T.cl3⟩ al_nil)))))))
theorem eq2 {G : Gx} {fa pa : Nat → Addr} {fd : Nat → FuncData} (T : Txt G.X.K G.X.mg G.ca fa pa fd) (tk : Takes G.X G.E) (hr : Room 0 G.X.A) : OpD G (compareOp .Eq) (eqD [] (nfL [])) :=
  cd_eqL (k := 0) tk hr tb_nil al_nil
theorem ln3 {G : Gx} {fa pa : Nat → Addr} {fd : Nat → FuncData} (T : Txt G.X.K G.X.mg G.ca fa pa fd) (tk : Takes G.X G.E) (hr : Room 1 G.X.A) : CallD G (.builtin "len") (lenD []) :=
  kd_len (k := 0) tk hr tb_nil
theorem in4 {G : Gx} {fa pa : Nat → Addr} {fd : Nat → FuncData} (T : Txt G.X.K G.X.mg G.ca fa pa fd) (tk : Takes G.X G.E) (hr : Room 1 G.X.A) : OpD G (compareOp .In) (inD [] (truD []) false) :=
  cd_in (k := 0) tk (hr.mono (by decide)) tb_nil (tr0 T tk (hr.mono (by decide)))
theorem ok2 {P : Program} {w : World} {K : PySem.W.Frag} {mg : Str → Option Value} {base : Heap} {ca fa pa : Nat → Addr} {fd : Nat → FuncData} (T : Txt K mg ca fa pa fd) : FnOk P w K mg base (L2.CX P w) 4 (fa 2) (fd 2) ["thing"] (spM K ca 1 m2) :=
  fn_okD (N := N2) (k := 3) (b := b2) T.F2 sc2 fun cdv A outer s H E hr =>
  (rss_one (rs_ret (re_and (tr0 T gx_tk (hr.mono (by decide))) (re_isiL (v2 := V.ty "str") (l := [(.non, false), (.bl, false), (.int, false), (.str, true), (.lst, false), (.tup, false), (.own 3, false)]) (is1 T) rv_ty (re_var (pv 0)) (pe_bltn (u := .type "str") rfl T.z_str (by decide +kernel) rfl) rfl T.z_isinstance) (re_and (tr0 T gx_tk (hr.mono (by decide))) (re_cmp (eq2 T gx_tk (hr.mono (by decide))) (re_callB (ln3 T gx_tk (hr.mono (by decide))) rfl T.z_len (by decide +kernel) (ra_cons (re_var (pv 0)) ra_nil)) re_int) (re_one (re_cmp (in4 T gx_tk (hr.mono (by decide))) (re_var (pv 0)) (re_cconE rfl T.mgc3 T.cr3 T.cv3_ALL (fun _ => .str _))))))))
theorem ok3 {P : Program} {w : World} {K : PySem.W.Frag} {mg : Str → Option Value} {base : Heap} {ca fa pa : Nat → Addr} {fd : Nat → FuncData} (T : Txt K mg ca fa pa fd) : FnOk P w K mg base (L2.CX P w) 4 (fa 3) (fd 3) ["letters"] (spM K ca 1 m3) :=
  fn_okD (N := N3) (k := 3) (b := b3) T.F3 sc3 fun cdv A outer s H E hr =>
  (rss_one (rs_ret (re_bm PySem.F.plainAttrs_str PySem.F.slot_str_join PySem.F.type_str_join md_join re_str (ra_cons (re_l (rl_rd (pe_comp (own := [("mark", 1)]) rfl sc3.nd (blkOk_by (own := [("mark", 1)]) (N := N3) (sc := defScope s3) (by decide +kernel))) (rdl_comp (js := [1]) (vs := [1]) (ri_val (re_cconE rfl T.mgc3 T.cr3 T.cv3_ALL (fun _ => .str _))) (fun _ _ _ _ _ => (rg_name (i := 1) (js := [1]) sc3.nd rfl (by first | exact .inl rfl | exact .inr rfl) (by decide))) (fun _ _ _ _ _ => (rts_one (rt_cmp (tr0 T takes0 (hr.mono (by decide))) (in4 T takes0 (hr.mono (by decide))) (re_var (pv 1)) (re_var (pv 0))))) (fun _ _ _ _ _ => (re_var (pv 1))) (fun _ h => h)))) ra_nil))))
theorem cd5 {G : Gx} {fa pa : Nat → Addr} {fd : Nat → FuncData} (T : Txt G.X.K G.X.mg G.ca fa pa fd) (tk : Takes G.X G.E) (hr : Room 4 G.X.A) : CallD G (.ref (fa 2)) (mCall 1 [] m2) :=
  call_defE tk (ok2 T) hr (bd2 T) (fun _ => .nil)
theorem cd6 {G : Gx} {fa pa : Nat → Addr} {fd : Nat → FuncData} (T : Txt G.X.K G.X.mg G.ca fa pa fd) (tk : Takes G.X G.E) (hr : Room 4 G.X.A) : CallD G (.ref (fa 3)) (mCall 1 [] m3) :=
  call_defE tk (ok3 T) hr (bd3 T) (fun _ => .nil)
theorem ok4 {P : Program} {w : World} {K : PySem.W.Frag} {mg : Str → Option Value} {base : Heap} {ca fa pa : Nat → Addr} {fd : Nat → FuncData} (T : Txt K mg ca fa pa fd) : FnOk P w K mg base (L2.CX P w) 7 (fa 4) (fd 4) ["self", "letters"] (spI K ca 3 1 mi4) :=
  init_okD (c := 3) (N := N4) (k := 6) (b := b4) T.F4 sc4 (by decide) (by decide) fun cdv A outer s H E hr =>
  (rss_cons (rs_if (rt_not (rt_val (tr0 T gx_tk (hr.mono (by decide))) (re_callB (kd_all rfl) rfl T.z_all (by decide +kernel) (ra_cons (re_l (rl_rd (pe_comp (own := [("letter", 2)]) rfl sc4.nd (blkOk_by (own := [("letter", 2)]) (N := N4) (sc := defScope s4) (by decide +kernel))) (rdl_comp (js := [2]) (vs := [2]) (ri_val (re_var (pv 1))) (fun _ _ _ _ _ => (rg_name (i := 2) (js := [2]) sc4.nd rfl (by first | exact .inl rfl | exact .inr rfl) (by decide))) (fun _ _ _ _ _ => rts_nil) (fun _ _ _ _ _ => (re_call (cd5 T takes0 (hr.mono (by decide))) rfl T.g2 T.F2.kp (ra_cons (re_var (pv 2)) ra_nil))) (fun _ h => h)))) ra_nil)))) (rss_one (rs_raiseE rfl gx_tk T.ox1 T.fi0 T.ti0 (ok0 T) (hr.mono (by decide)) (bd0 T) rfl T.mgc1 (ra_cons (re_var (pv 1)) ra_nil) (by decide))) rss_nil)
  (rss_one (rs_fldO (fo_cons T.cl3.cl T.na3_letters fo_nil) (pv 0) (re_call (cd6 T gx_tk (hr.mono (by decide))) rfl T.g3 T.F3.kp (ra_cons (re_var (pv 1)) ra_nil)))))
theorem ok5 {P : Program} {w : World} {K : PySem.W.Frag} {mg : Str → Option Value} {base : Heap} {ca fa pa : Nat → Addr} {fd : Nat → FuncData} (T : Txt K mg ca fa pa fd) : FnOk P w K mg base (L2.CX P w) 4 (fa 5) (fd 5) ["self"] (spM K ca 1 m5) :=
  fn_okD (N := N5) (k := 3) (b := b5) T.F5 sc5 fun cdv A outer s H E hr =>
  (rss_one (rs_ret (re_or (tr0 T gx_tk (hr.mono (by decide))) (re_fld (fo_cons T.cl3.cl T.na3_letters fo_nil) (re_var (pv 0))) (re_one re_str))))
theorem ok6 {P : Program} {w : World} {K : PySem.W.Frag} {mg : Str → Option Value} {base : Heap} {ca fa pa : Nat → Addr} {fd : Nat → FuncData} (T : Txt K mg ca fa pa fd) : FnOk P w K mg base (L2.CX P w) 4 (fa 6) (fd 6) ["self"] (spM K ca 1 m6) :=
  fn_okD (N := N6) (k := 3) (b := b6) T.F6 sc6 fun cdv A outer s H E hr =>
  (rss_one (rs_ret (re_callB (ln3 T gx_tk (hr.mono (by decide))) rfl T.z_len (by decide +kernel) (ra_cons (re_fld (fo_cons T.cl3.cl T.na3_letters fo_nil) (re_var (pv 0))) ra_nil))))
end W00

namespace W00
open PySem PySem.Spec PyProof.Rows L2 ClX ItX Mi
theorem it7 {G : Gx} {fa pa : Nat → Addr} {fd : Nat → FuncData} (T : Txt G.X.K G.X.mg G.ca fa pa fd) : OwnIt G 3 "letters" :=
  ⟨T.cl3.cl, T.na3_letters, fa 7, "Marks.__iter__", s7, fd 7, T.F7, sc7, (bd7 T).b0, T.me7.at_, T.me7.fn, fun cdv A outer s H E => pss_one (ps_ret (pe_callB call_iterV (by rfl) T.z_iter (by decide +kernel) (pa_cons (pe_fld (pv 0) rfl) pa_nil)))⟩
theorem tb7 {G : Gx} {fa pa : Nat → Addr} {fd : Nat → FuncData} (T : Txt G.X.K G.X.mg G.ca fa pa fd) : TabOk G 4 "__len__" 1 [(3, m6)] :=
  (tb_meth (df_mk (ok6 T) (bd6 T)) (by decide) T.me6 T.sf3 tb_nil)
theorem tr8 {G : Gx} {fa pa : Nat → Addr} {fd : Nat → FuncData} (T : Txt G.X.K G.X.mg G.ca fa pa fd) (tk : Takes G.X G.E) (hr : Room 5 G.X.A) : TrD G (truD [(3, m6)]) :=
  td_tru (k := 4) tk hr (tb7 T) (xb_cons T.nb3 xb_nil)
theorem in9 {G : Gx} {fa pa : Nat → Addr} {fd : Nat → FuncData} (T : Txt G.X.K G.X.mg G.ca fa pa fd) (tk : Takes G.X G.E) (hr : Room 5 G.X.A) : OpD G (compareOp .In) (inD [] (truD [(3, m6)]) false) :=
  cd_in (k := 0) tk (hr.mono (by decide)) tb_nil (tr8 T tk (hr.mono (by decide)))
theorem ok8 {P : Program} {w : World} {K : PySem.W.Frag} {mg : Str → Option Value} {base : Heap} {ca fa pa : Nat → Addr} {fd : Nat → FuncData} (T : Txt K mg ca fa pa fd) : FnOk P w K mg base (L2.CX P w) 7 (fa 8) (fd 8) ["self", "mark"] (spM K ca 2 m8) :=
  fn_okD (N := N8) (k := 6) (b := b8) T.F8 sc8 fun cdv A outer s H E hr =>
  (rss_one (rs_ret (re_and (tr8 T gx_tk (hr.mono (by decide))) (re_call (cd5 T gx_tk (hr.mono (by decide))) rfl T.g2 T.F2.kp (ra_cons (re_var (pv 1)) ra_nil)) (re_one (re_cmp (in9 T gx_tk (hr.mono (by decide))) (re_var (pv 1)) (re_fld (fo_cons T.cl3.cl T.na3_letters fo_nil) (re_var (pv 0))))))))
theorem nw10 {G : Gx} {fa pa : Nat → Addr} {fd : Nat → FuncData} (T : Txt G.X.K G.X.mg G.ca fa pa fd) (tk : Takes G.X G.E) (hr : Room 8 G.X.A) : CallD G (.ref (G.ca 3)) (mNew 3 1 [] mi4) :=
  call_newE tk T.mk3 (ok4 T) hr (bd4_0 T) (fun _ => .nil)
theorem ow11 {G : Gx} {fa pa : Nat → Addr} {fd : Nat → FuncData} (T : Txt G.X.K G.X.mg G.ca fa pa fd) : ∀ c f, List.lookup c ([(3, "letters")] : List (Nat × Str)) = some f → OwnIt G c f :=
  (al_cons (it7 T) al_nil)
theorem tb12 {G : Gx} {fa pa : Nat → Addr} {fd : Nat → FuncData} (T : Txt G.X.K G.X.mg G.ca fa pa fd) : TabOk G 7 "__contains__" 2 [(3, m8)] :=
  (tb_meth (df_mk (ok8 T) (bd8 T)) (by decide) T.me8 T.sf3 tb_nil)
theorem in13 {G : Gx} {fa pa : Nat → Addr} {fd : Nat → FuncData} (T : Txt G.X.K G.X.mg G.ca fa pa fd) (tk : Takes G.X G.E) (hr : Room 7 G.X.A) : OpD G (compareOp .In) (inD [(3, m8)] (truD [(3, m6)]) false) :=
  cd_in (k := 7) tk (hr.mono (by decide)) (tb12 T) (tr8 T tk (hr.mono (by decide)))
theorem ok9 {P : Program} {w : World} {K : PySem.W.Frag} {mg : Str → Option Value} {base : Heap} {ca fa pa : Nat → Addr} {fd : Nat → FuncData} (T : Txt K mg ca fa pa fd) : FnOk P w K mg base (L2.CX P w) 10 (fa 9) (fd 9) ["self", "other"] (spM K ca 2 m9) :=
  fn_okD (N := N9) (k := 9) (b := b9) T.F9 sc9 fun cdv A outer s H E hr =>
  (rss_one (rs_ret (re_call (nw10 T gx_tk (hr.mono (by decide))) rfl T.mgc3 T.kc3 (ra_cons (re_bm PySem.F.plainAttrs_str PySem.F.slot_str_join PySem.F.type_str_join md_join re_str (ra_cons (re_l (rl_rd (pe_comp (own := [("mark", 2)]) rfl sc9.nd (blkOk_by (own := [("mark", 2)]) (N := N9) (sc := defScope s9) (by decide +kernel))) (rdl_comp (js := [2]) (vs := [2]) (ri_own gx_tk (hr.mono (by decide)) (ow11 T) (re_fld (fo_cons T.cl3.cl T.na3_letters fo_nil) (re_var (pv 0)))) (fun _ _ _ _ _ => (rg_name (i := 2) (js := [2]) sc9.nd rfl (by first | exact .inl rfl | exact .inr rfl) (by decide))) (fun _ _ _ _ _ => (rts_one (rt_cmp (tr8 T takes0 (hr.mono (by decide))) (in13 T takes0 (hr.mono (by decide))) (re_var (pv 2)) (re_fld (fo_cons T.cl3.cl T.na3_letters fo_nil) (re_var (pv 1)))))) (fun _ _ _ _ _ => (re_var (pv 2))) (fun _ h => h)))) ra_nil)) ra_nil))))
theorem op14 {G : Gx} {fa pa : Nat → Addr} {fd : Nat → FuncData} (T : Txt G.X.K G.X.mg G.ca fa pa fd) (tk : Takes G.X G.E) (hr : Room 0 G.X.A) : OpD G (binaryOp .Add) (opAdd []) :=
  od_add (k := 0) tk hr tb_nil
theorem ok10 {P : Program} {w : World} {K : PySem.W.Frag} {mg : Str → Option Value} {base : Heap} {ca fa pa : Nat → Addr} {fd : Nat → FuncData} (T : Txt K mg ca fa pa fd) : FnOk P w K mg base (L2.CX P w) 10 (fa 10) (fd 10) ["self", "other"] (spM K ca 2 m10) :=
  fn_okD (N := N10) (k := 9) (b := b10) T.F10 sc10 fun cdv A outer s H E hr =>
  (rss_one (rs_ret (re_call (nw10 T gx_tk (hr.mono (by decide))) rfl T.mgc3 T.kc3 (ra_cons (re_bin (op14 T gx_tk (hr.mono (by decide))) (re_fld (fo_cons T.cl3.cl T.na3_letters fo_nil) (re_var (pv 0))) (re_fld (fo_cons T.cl3.cl T.na3_letters fo_nil) (re_var (pv 1)))) ra_nil))))
theorem in15 {G : Gx} {fa pa : Nat → Addr} {fd : Nat → FuncData} (T : Txt G.X.K G.X.mg G.ca fa pa fd) (tk : Takes G.X G.E) (hr : Room 7 G.X.A) : OpD G (compareOp .NotIn) (inD [(3, m8)] (truD [(3, m6)]) true) :=
  cd_nin (k := 7) tk (hr.mono (by decide)) (tb12 T) (tr8 T tk (hr.mono (by decide)))
theorem ok11 {P : Program} {w : World} {K : PySem.W.Frag} {mg : Str → Option Value} {base : Heap} {ca fa pa : Nat → Addr} {fd : Nat → FuncData} (T : Txt K mg ca fa pa fd) : FnOk P w K mg base (L2.CX P w) 10 (fa 11) (fd 11) ["self", "other"] (spM K ca 2 m11) :=
  fn_okD (N := N11) (k := 9) (b := b11) T.F11 sc11 fun cdv A outer s H E hr =>
  (rss_one (rs_ret (re_call (nw10 T gx_tk (hr.mono (by decide))) rfl T.mgc3 T.kc3 (ra_cons (re_bm PySem.F.plainAttrs_str PySem.F.slot_str_join PySem.F.type_str_join md_join re_str (ra_cons (re_l (rl_rd (pe_comp (own := [("mark", 2)]) rfl sc11.nd (blkOk_by (own := [("mark", 2)]) (N := N11) (sc := defScope s11) (by decide +kernel))) (rdl_comp (js := [2]) (vs := [2]) (ri_own gx_tk (hr.mono (by decide)) (ow11 T) (re_fld (fo_cons T.cl3.cl T.na3_letters fo_nil) (re_var (pv 0)))) (fun _ _ _ _ _ => (rg_name (i := 2) (js := [2]) sc11.nd rfl (by first | exact .inl rfl | exact .inr rfl) (by decide))) (fun _ _ _ _ _ => (rts_one (rt_cmp (tr8 T takes0 (hr.mono (by decide))) (in15 T takes0 (hr.mono (by decide))) (re_var (pv 2)) (re_fld (fo_cons T.cl3.cl T.na3_letters fo_nil) (re_var (pv 1)))))) (fun _ _ _ _ _ => (re_var (pv 2))) (fun _ h => h)))) ra_nil)) ra_nil))))
end W00

namespace W00
open PySem PySem.Spec PyProof.Rows L2 ClX ItX Mi
theorem tb16 {G : Gx} {fa pa : Nat → Addr} {fd : Nat → FuncData} (T : Txt G.X.K G.X.mg G.ca fa pa fd) : TabOk G 10 "__sub__" 2 [(3, m11)] :=
  (tb_meth (df_mk (ok11 T) (bd11 T)) (by decide) T.me11 T.sf3 tb_nil)
theorem op17 {G : Gx} {fa pa : Nat → Addr} {fd : Nat → FuncData} (T : Txt G.X.K G.X.mg G.ca fa pa fd) (tk : Takes G.X G.E) (hr : Room 10 G.X.A) : OpD G (binaryOp .Sub) (opSub [(3, m11)]) :=
  od_sub (k := 10) tk hr (tb16 T)
theorem tb18 {G : Gx} {fa pa : Nat → Addr} {fd : Nat → FuncData} (T : Txt G.X.K G.X.mg G.ca fa pa fd) : TabOk G 10 "__or__" 2 [(3, m10)] :=
  (tb_meth (df_mk (ok10 T) (bd10 T)) (by decide) T.me10 T.sf3 tb_nil)
theorem op19 {G : Gx} {fa pa : Nat → Addr} {fd : Nat → FuncData} (T : Txt G.X.K G.X.mg G.ca fa pa fd) (tk : Takes G.X G.E) (hr : Room 10 G.X.A) : OpD G (binaryOp .BitOr) (ownOp [(3, m10)]) :=
  od_own (k := 10) tk hr (tb18 T)
theorem tb20 {G : Gx} {fa pa : Nat → Addr} {fd : Nat → FuncData} (T : Txt G.X.K G.X.mg G.ca fa pa fd) : TabOk G 10 "__and__" 2 [(3, m9)] :=
  (tb_meth (df_mk (ok9 T) (bd9 T)) (by decide) T.me9 T.sf3 tb_nil)
theorem op21 {G : Gx} {fa pa : Nat → Addr} {fd : Nat → FuncData} (T : Txt G.X.K G.X.mg G.ca fa pa fd) (tk : Takes G.X G.E) (hr : Room 10 G.X.A) : OpD G (binaryOp .BitAnd) (ownOp [(3, m9)]) :=
  od_own (k := 10) tk hr (tb20 T)
theorem ok12 {P : Program} {w : World} {K : PySem.W.Frag} {mg : Str → Option Value} {base : Heap} {ca fa pa : Nat → Addr} {fd : Nat → FuncData} (T : Txt K mg ca fa pa fd) : FnOk P w K mg base (L2.CX P w) 13 (fa 12) (fd 12) ["self", "other"] (spM K ca 2 m12) :=
  fn_okD (N := N12) (k := 12) (b := b12) T.F12 sc12 fun cdv A outer s H E hr =>
  (rss_one (rs_ret (re_bin (op17 T gx_tk (hr.mono (by decide))) (re_bin (op19 T gx_tk (hr.mono (by decide))) (re_var (pv 0)) (re_var (pv 1))) (re_bin (op21 T gx_tk (hr.mono (by decide))) (re_var (pv 0)) (re_var (pv 1))))))
theorem ok13 {P : Program} {w : World} {K : PySem.W.Frag} {mg : Str → Option Value} {base : Heap} {ca fa pa : Nat → Addr} {fd : Nat → FuncData} (T : Txt K mg ca fa pa fd) : FnOk P w K mg base (L2.CX P w) 10 (fa 13) (fd 13) ["self"] (spM K ca 1 m13) :=
  fn_okD (N := N13) (k := 9) (b := b13) T.F13 sc13 fun cdv A outer s H E hr =>
  (rss_one (rs_ret (re_call (nw10 T gx_tk (hr.mono (by decide))) rfl T.mgc3 T.kc3 (ra_cons (re_bm PySem.F.plainAttrs_str PySem.F.slot_str_join PySem.F.type_str_join md_join re_str (ra_cons (re_l (rl_rd (pe_comp (own := [("mark", 1)]) rfl sc13.nd (blkOk_by (own := [("mark", 1)]) (N := N13) (sc := defScope s13) (by decide +kernel))) (rdl_comp (js := [1]) (vs := [1]) (ri_own gx_tk (hr.mono (by decide)) (ow11 T) (re_cconE rfl T.mgc3 T.cr3 T.cv3_ALL (fun _ => .str _))) (fun _ _ _ _ _ => (rg_name (i := 1) (js := [1]) sc13.nd rfl (by first | exact .inl rfl | exact .inr rfl) (by decide))) (fun _ _ _ _ _ => (rts_one (rt_cmp (tr8 T takes0 (hr.mono (by decide))) (in15 T takes0 (hr.mono (by decide))) (re_var (pv 1)) (re_fld (fo_cons T.cl3.cl T.na3_letters fo_nil) (re_var (pv 0)))))) (fun _ _ _ _ _ => (re_var (pv 1))) (fun _ h => h)))) ra_nil)) ra_nil))))
theorem ok14 {P : Program} {w : World} {K : PySem.W.Frag} {mg : Str → Option Value} {base : Heap} {ca fa pa : Nat → Addr} {fd : Nat → FuncData} (T : Txt K mg ca fa pa fd) : FnOk P w K mg base (L2.CX P w) 10 (fa 14) (fd 14) ["self", "other"] (spM K ca 2 m14) :=
  fn_okD (N := N14) (k := 9) (b := b14) T.F14 sc14 fun cdv A outer s H E hr =>
  (rss_one (rs_ret (re_callB (kd_all rfl) rfl T.z_all (by decide +kernel) (ra_cons (re_l (rl_rd (pe_comp (own := [("mark", 2)]) rfl sc14.nd (blkOk_by (own := [("mark", 2)]) (N := N14) (sc := defScope s14) (by decide +kernel))) (rdl_comp (js := [2]) (vs := [2]) (ri_own gx_tk (hr.mono (by decide)) (ow11 T) (re_fld (fo_cons T.cl3.cl T.na3_letters fo_nil) (re_var (pv 0)))) (fun _ _ _ _ _ => (rg_name (i := 2) (js := [2]) sc14.nd rfl (by first | exact .inl rfl | exact .inr rfl) (by decide))) (fun _ _ _ _ _ => rts_nil) (fun _ _ _ _ _ => (re_cmp (in13 T takes0 (hr.mono (by decide))) (re_var (pv 2)) (re_fld (fo_cons T.cl3.cl T.na3_letters fo_nil) (re_var (pv 1))))) (fun _ h => h)))) ra_nil))))
theorem is22 {G : Gx} {fa pa : Nat → Addr} {fd : Nat → FuncData} (T : Txt G.X.K G.X.mg G.ca fa pa fd) : ∀ t b, List.lookup t ([(.non, false), (.bl, false), (.int, false), (.str, false), (.lst, false), (.tup, false), (.own 3, true)] : TagB) = some b → PySem.W.kitOne G.X.K (tagV G.ca t) (.ref (G.ca 3)) = some b ∧ ClsOf G.X.K G.ca t :=
  (al_cons ⟨T.kit_non_c3, co_no⟩ (al_cons ⟨T.kit_bl_c3, co_no⟩ (al_cons ⟨T.kit_int_c3, co_no⟩ (al_cons ⟨T.kit_str_c3, co_no⟩ (al_cons ⟨T.kit_lst_c3, co_no⟩ (al_cons ⟨T.kit_tup_c3, co_no⟩ (al_cons ⟨T.kit_o3_c3, co_own T.cl3⟩ al_nil)))))))
theorem ok15 {P : Program} {w : World} {K : PySem.W.Frag} {mg : Str → Option Value} {base : Heap} {ca fa pa : Nat → Addr} {fd : Nat → FuncData} (T : Txt K mg ca fa pa fd) : FnOk P w K mg base (L2.CX P w) 7 (fa 15) (fd 15) ["self", "other"] (spM K ca 2 m15) :=
  fn_okD (N := N15) (k := 6) (b := b15) T.F15 sc15 fun cdv A outer s H E hr =>
  (rss_one (rs_ret (re_and (tr8 T gx_tk (hr.mono (by decide))) (re_isiL (v2 := V.ref (ca 3)) (l := [(.non, false), (.bl, false), (.int, false), (.str, false), (.lst, false), (.tup, false), (.own 3, true)]) (is22 T) rv_ref (re_var (pv 1)) (pe_glob rfl T.mgc3 rfl) rfl T.z_isinstance) (re_one (re_cmp (eq2 T gx_tk (hr.mono (by decide))) (re_fld (fo_cons T.cl3.cl T.na3_letters fo_nil) (re_var (pv 0))) (re_fld (fo_cons T.cl3.cl T.na3_letters fo_nil) (re_var (pv 1))))))))
theorem ok16 {P : Program} {w : World} {K : PySem.W.Frag} {mg : Str → Option Value} {base : Heap} {ca fa pa : Nat → Addr} {fd : Nat → FuncData} (T : Txt K mg ca fa pa fd) : FnOk P w K mg base (L2.CX P w) 10 (fa 16) (fd 16) ["cls", "text"] (spM K ca 2 m16) :=
  fn_okD (N := N16) (k := 9) (b := b16) T.F16 sc16 fun cdv A outer s H E hr =>
  (rss_cons (rs_set (i := 2) sc16.nd rfl (by first | exact .inl rfl | exact .inr rfl) (re_call (cd6 T gx_tk (hr.mono (by decide))) rfl T.g3 T.F3.kp (ra_cons (re_var (pv 1)) ra_nil)))
  (rss_cons (rs_if (rt_cmp (tr8 T gx_tk (hr.mono (by decide))) (cd_ne hr) (re_var (pv 1)) (re_or (tr8 T gx_tk (hr.mono (by decide))) (re_var (pv 2)) (re_one re_str))) (rss_one (rs_raiseE rfl gx_tk T.ox2 T.fi1 T.ti1 (ok1 T) (hr.mono (by decide)) (bd1 T) rfl T.mgc2 (ra_cons re_int ra_nil) (by decide))) rss_nil)
  (rss_one (rs_ret (re_cls (al_cons ⟨(nw10 T gx_tk (hr.mono (by decide))), T.kc3⟩ al_nil) (pv 0) (ra_cons (re_var (pv 2)) ra_nil))))))
theorem op23 {G : Gx} {fa pa : Nat → Addr} {fd : Nat → FuncData} (T : Txt G.X.K G.X.mg G.ca fa pa fd) (tk : Takes G.X G.E) (hr : Room 0 G.X.A) : OpD G (binaryOp .Mult) (opMul []) :=
  od_mul (k := 0) tk hr tb_nil
theorem ok17 {P : Program} {w : World} {K : PySem.W.Frag} {mg : Str → Option Value} {base : Heap} {ca fa pa : Nat → Addr} {fd : Nat → FuncData} (T : Txt K mg ca fa pa fd) : FnOk P w K mg base (L2.CX P w) 7 (fa 17) (fd 17) ["_law_script"] (spM K ca 1 m17) :=
  fn_okD (N := N17) (k := 6) (b := b17) T.F17 sc17 fun cdv A outer s H E hr =>
  (rss_cons (rs_set (i := 1) sc17.nd rfl (by first | exact .inl rfl | exact .inr rfl) (re_cel (rl_lst ra_nil)))
  (rss_cons (rs_for gx_po rfl (ri_own gx_tk (hr.mono (by decide)) (ow11 T) (re_var (pv 0))) (rg_name (i := 2) (js := [2]) sc17.nd rfl (by first | exact .inl rfl | exact .inr rfl) (by decide)) (rss_cons (rs_set (i := 3) sc17.nd rfl (by first | exact .inl rfl | exact .inr rfl) (re_callB kd_abs rfl T.z_abs (by decide +kernel) (ra_cons (re_callTy kd_int rfl T.z_int (by decide +kernel) (ra_cons (re_var (pv 2)) ra_nil)) ra_nil)))
  (rss_one (rs_if (rt_cmp (tr8 T gx_tk (hr.mono (by decide))) cd_lt (re_var (pv 3)) (re_bin od_pow re_int re_int)) (rss_one (rs_for gx_po rfl (ri_range1 rfl T.z_range (ra_cons re_int ra_nil)) (rg_name (i := 4) (js := [4]) sc17.nd rfl (by first | exact .inl rfl | exact .inr rfl) (by decide)) (rss_cons (rs_set (i := 5) sc17.nd rfl (by first | exact .inl rfl | exact .inr rfl) (re_bin od_mod (re_callTy kd_int rfl T.z_int (by decide +kernel) (ra_cons (re_bin (op14 T gx_tk (hr.mono (by decide))) (re_bin (op14 T gx_tk (hr.mono (by decide))) (re_bin (op23 T gx_tk (hr.mono (by decide))) (re_var (pv 2)) re_int) (re_bin (op23 T gx_tk (hr.mono (by decide))) (re_var (pv 4)) re_int)) re_int) ra_nil)) re_int))
  (rss_one (rs_expr (re_bm PySem.F.plainAttrs_list PySem.F.slot_list_append PySem.F.type_list_append md_app (re_var (pv 1)) (ra_cons (re_bin od_mod (re_callTy kd_int rfl T.z_int (by decide +kernel) (ra_cons (re_bin (op14 T gx_tk (hr.mono (by decide))) (re_bin (op14 T gx_tk (hr.mono (by decide))) (re_bin (op23 T gx_tk (hr.mono (by decide))) (re_var (pv 5)) (re_var (pv 5))) (re_bin (op23 T gx_tk (hr.mono (by decide))) (re_var (pv 4)) re_int)) (re_bin od_fdv (re_var (pv 3)) re_int)) ra_nil)) re_int) ra_nil))))))) (rss_one (rs_for gx_po rfl (ri_range1 rfl T.z_range (ra_cons re_int ra_nil)) (rg_name (i := 4) (js := [4]) sc17.nd rfl (by first | exact .inl rfl | exact .inr rfl) (by decide)) (rss_one (rs_if (rt_cmp (tr8 T gx_tk (hr.mono (by decide))) cd_gt (re_var (pv 3)) re_int) (rss_cons (rs_expr (re_bm PySem.F.plainAttrs_list PySem.F.slot_list_append PySem.F.type_list_append md_app (re_var (pv 1)) (ra_cons (re_bin od_mod (re_callTy kd_int rfl T.z_int (by decide +kernel) (ra_cons (re_var (pv 3)) ra_nil)) re_int) ra_nil)))
  (rss_one (rs_set (i := 3) sc17.nd rfl (by first | exact .inl rfl | exact .inr rfl) (re_bin od_fdv (re_var (pv 3)) re_int)))) rss_nil))))))))
  (rss_one (rs_ret (re_var (pv 1))))))
end W00

namespace W00
open PySem PySem.Spec PyProof.Rows L2 ClX ItX Mi
theorem tb24 {G : Gx} {fa pa : Nat → Addr} {fd : Nat → FuncData} (T : Txt G.X.K G.X.mg G.ca fa pa fd) : TabOk G 7 "__eq__" 2 [(3, m15)] :=
  (tb_meth (df_mk (ok15 T) (bd15 T)) (by decide) T.me15 T.sf3 tb_nil)
theorem eq25 {G : Gx} {fa pa : Nat → Addr} {fd : Nat → FuncData} (T : Txt G.X.K G.X.mg G.ca fa pa fd) (tk : Takes G.X G.E) (hr : Room 7 G.X.A) : OpD G (compareOp .Eq) (eqD [(3, m15)] (nfL [((3, .non), true), ((3, .bl), true), ((3, .int), true), ((3, .str), true), ((3, .lst), true), ((3, .tup), true), ((3, .own 3), true)])) :=
  cd_eqL (k := 7) tk hr (tb24 T) (al_cons ⟨T.nf3_non, co_no⟩ (al_cons ⟨T.nf3_bl, co_no⟩ (al_cons ⟨T.nf3_int, co_no⟩ (al_cons ⟨T.nf3_str, co_no⟩ (al_cons ⟨T.nf3_lst, co_no⟩ (al_cons ⟨T.nf3_tup, co_no⟩ (al_cons ⟨T.nf3_3o, co_own T.cl3⟩ al_nil)))))))
theorem ok18 {P : Program} {w : World} {K : PySem.W.Frag} {mg : Str → Option Value} {base : Heap} {ca fa pa : Nat → Addr} {fd : Nat → FuncData} (T : Txt K mg ca fa pa fd) : FnOk P w K mg base (L2.CX P w) 10 (fa 18) (fd 18) ["_law_pool", "_law_many"] (spM K ca 2 m18) :=
  fn_okD (N := N18) (k := 9) (b := b18) T.F18 sc18 fun cdv A outer s H E hr =>
  (rss_cons (rs_if (rt_cmp (tr8 T gx_tk (hr.mono (by decide))) (eq25 T gx_tk (hr.mono (by decide))) (re_var (pv 0)) (re_l (rl_lst ra_nil))) (rss_one (rs_ret re_int)) rss_nil)
  (rss_one (rs_ret (re_bin od_mod (re_callTy kd_int rfl T.z_int (by decide +kernel) (ra_cons (re_bm PySem.F.plainAttrs_list PySem.F.slot_list_pop PySem.F.type_list_pop md_pop (re_var (pv 0)) (ra_cons re_int ra_nil)) ra_nil)) (re_var (pv 1))))))
theorem cd26 {G : Gx} {fa pa : Nat → Addr} {fd : Nat → FuncData} (T : Txt G.X.K G.X.mg G.ca fa pa fd) (tk : Takes G.X G.E) (hr : Room 10 G.X.A) : CallD G (.ref (fa 18)) (mCall 2 [] m18) :=
  call_defE tk (ok18 T) hr (bd18 T) (fun _ => .nil)
theorem ok19 {P : Program} {w : World} {K : PySem.W.Frag} {mg : Str → Option Value} {base : Heap} {ca fa pa : Nat → Addr} {fd : Nat → FuncData} (T : Txt K mg ca fa pa fd) : FnOk P w K mg base (L2.CX P w) 13 (fa 19) (fd 19) ["_law_pool"] (spM K ca 1 m19) :=
  fn_okD (N := N19) (k := 12) (b := b19) T.F19 sc19 fun cdv A outer s H E hr =>
  (rss_cons (rs_set (i := 1) sc19.nd rfl (by first | exact .inl rfl | exact .inr rfl) (re_bin od_mod (re_bin (op14 T gx_tk (hr.mono (by decide))) re_int (re_call (cd26 T gx_tk (hr.mono (by decide))) rfl T.g18 T.F18.kp (ra_cons (re_var (pv 0)) (ra_cons re_int ra_nil)))) re_int))
  (rss_cons (rs_if (rt_cmp (tr8 T gx_tk (hr.mono (by decide))) (eq25 T gx_tk (hr.mono (by decide))) (re_call (cd26 T gx_tk (hr.mono (by decide))) rfl T.g18 T.F18.kp (ra_cons (re_var (pv 0)) (ra_cons re_int ra_nil))) re_int) (rss_one (rs_set (i := 1) sc19.nd rfl (by first | exact .inl rfl | exact .inr rfl) (re_bin (op14 T gx_tk (hr.mono (by decide))) (re_var (pv 1)) re_int))) rss_nil)
  (rss_one (rs_ret (re_bm PySem.F.plainAttrs_str PySem.F.slot_str_join PySem.F.type_str_join md_join re_str (ra_cons (re_l (rl_rd (pe_comp (own := [("_law_k", 2)]) rfl sc19.nd (blkOk_by (own := [("_law_k", 2)]) (N := N19) (sc := defScope s19) (by decide +kernel))) (rdl_comp (js := [2]) (vs := [2]) (ri_range1 rfl T.z_range (ra_cons (re_var (pv 1)) ra_nil)) (fun _ _ _ _ _ => (rg_name (i := 2) (js := [2]) sc19.nd rfl (by first | exact .inl rfl | exact .inr rfl) (by decide))) (fun _ _ _ _ _ => rts_nil) (fun _ _ _ _ _ => (re_ix xd_ix re_str (re_call (cd26 T takes0 (hr.mono (by decide))) rfl T.g18 T.F18.kp (ra_cons (re_var (pv 0)) (ra_cons re_int ra_nil))))) (fun _ h => h)))) ra_nil))))))
theorem ln27 {G : Gx} {fa pa : Nat → Addr} {fd : Nat → FuncData} (T : Txt G.X.K G.X.mg G.ca fa pa fd) (tk : Takes G.X G.E) (hr : Room 5 G.X.A) : CallD G (.builtin "len") (lenD [(3, m6)]) :=
  kd_len (k := 4) tk hr (tb7 T)
theorem cd28 {G : Gx} {fa pa : Nat → Addr} {fd : Nat → FuncData} (T : Txt G.X.K G.X.mg G.ca fa pa fd) (tk : Takes G.X G.E) (hr : Room 13 G.X.A) : CallD G (.ref (fa 19)) (mCall 1 [] m19) :=
  call_defE tk (ok19 T) hr (bd19 T) (fun _ => .nil)
theorem ok20 {P : Program} {w : World} {K : PySem.W.Frag} {mg : Str → Option Value} {base : Heap} {ca fa pa : Nat → Addr} {fd : Nat → FuncData} (T : Txt K mg ca fa pa fd) : FnOk P w K mg base (L2.CX P w) 16 (fa 20) (fd 20) ["_law_pool", "_law_first"] (spM K ca 2 m20) :=
  fn_okD (N := N20) (k := 15) (b := b20) T.F20 sc20 fun cdv A outer s H E hr =>
  (rss_cons (rs_set (i := 2) sc20.nd rfl (by first | exact .inl rfl | exact .inr rfl) (re_call (cd26 T gx_tk (hr.mono (by decide))) rfl T.g18 T.F18.kp (ra_cons (re_var (pv 0)) (ra_cons re_int ra_nil))))
  (rss_cons (rs_if (rt_cmp (tr8 T gx_tk (hr.mono (by decide))) (eq25 T gx_tk (hr.mono (by decide))) (re_var (pv 2)) re_int) (rss_one (rs_ret (re_rev (re_var (pv 1))))) rss_nil)
  (rss_cons (rs_if (rt_cmp (tr8 T gx_tk (hr.mono (by decide))) (eq25 T gx_tk (hr.mono (by decide))) (re_var (pv 2)) re_int) (rss_one (rs_ret (re_slice sd_sl (re_var (pv 1)) (rp_some (re_call (cd26 T gx_tk (hr.mono (by decide))) rfl T.g18 T.F18.kp (ra_cons (re_var (pv 0)) (ra_cons (re_bin (op14 T gx_tk (hr.mono (by decide))) (re_callB (ln27 T gx_tk (hr.mono (by decide))) rfl T.z_len (by decide +kernel) (ra_cons (re_var (pv 1)) ra_nil)) re_int) ra_nil)))) rp_none))) rss_nil)
  (rss_cons (rs_if (rt_cmp (tr8 T gx_tk (hr.mono (by decide))) (eq25 T gx_tk (hr.mono (by decide))) (re_var (pv 2)) re_int) (rss_one (rs_ret (re_bin (op14 T gx_tk (hr.mono (by decide))) (re_var (pv 1)) (re_call (cd28 T gx_tk (hr.mono (by decide))) rfl T.g19 T.F19.kp (ra_cons (re_var (pv 0)) ra_nil))))) rss_nil)
  (rss_cons (rs_if (rt_cmp (tr8 T gx_tk (hr.mono (by decide))) (eq25 T gx_tk (hr.mono (by decide))) (re_var (pv 2)) re_int) (rss_one (rs_ret (re_bm PySem.F.plainAttrs_str PySem.F.slot_str_join PySem.F.type_str_join md_join re_str (ra_cons (re_l (rl_rd (pe_comp (own := [("_law_mark", 3)]) rfl sc20.nd (blkOk_by (own := [("_law_mark", 3)]) (N := N20) (sc := defScope s20) (by decide +kernel))) (rdl_comp (js := [3]) (vs := [3]) (ri_own gx_tk (hr.mono (by decide)) (ow11 T) re_str) (fun _ _ _ _ _ => (rg_name (i := 3) (js := [3]) sc20.nd rfl (by first | exact .inl rfl | exact .inr rfl) (by decide))) (fun _ _ _ _ _ => (rts_one (rt_cmp (tr8 T takes0 (hr.mono (by decide))) (in15 T takes0 (hr.mono (by decide))) (re_var (pv 3)) (re_var (pv 1))))) (fun _ _ _ _ _ => (re_var (pv 3))) (fun _ h => h)))) ra_nil)))) rss_nil)
  (rss_one (rs_ret (re_call (cd28 T gx_tk (hr.mono (by decide))) rfl T.g19 T.F19.kp (ra_cons (re_var (pv 0)) ra_nil)))))))))
theorem ok21 {P : Program} {w : World} {K : PySem.W.Frag} {mg : Str → Option Value} {base : Heap} {ca fa pa : Nat → Addr} {fd : Nat → FuncData} (T : Txt K mg ca fa pa fd) : FnOk P w K mg base (L2.CX P w) 13 (fa 21) (fd 21) ["_law_pool"] (spM K ca 1 m21) :=
  fn_okD (N := N21) (k := 12) (b := b21) T.F21 sc21 fun cdv A outer s H E hr =>
  (rss_cons (rs_set (i := 1) sc21.nd rfl (by first | exact .inl rfl | exact .inr rfl) re_str)
  (rss_cons (rs_set (i := 1) sc21.nd rfl (by first | exact .inl rfl | exact .inr rfl) (re_bin (op14 T gx_tk (hr.mono (by decide))) (re_var (pv 1)) re_str))
  (rss_one (rs_ret (re_ix xd_ix (re_var (pv 1)) (re_call (cd26 T gx_tk (hr.mono (by decide))) rfl T.g18 T.F18.kp (ra_cons (re_var (pv 0)) (ra_cons re_int ra_nil))))))))
theorem cd29 {G : Gx} {fa pa : Nat → Addr} {fd : Nat → FuncData} (T : Txt G.X.K G.X.mg G.ca fa pa fd) (tk : Takes G.X G.E) (hr : Room 13 G.X.A) : CallD G (.ref (fa 21)) (mCall 1 [] m21) :=
  call_defE tk (ok21 T) hr (bd21 T) (fun _ => .nil)
theorem ok22 {P : Program} {w : World} {K : PySem.W.Frag} {mg : Str → Option Value} {base : Heap} {ca fa pa : Nat → Addr} {fd : Nat → FuncData} (T : Txt K mg ca fa pa fd) : FnOk P w K mg base (L2.CX P w) 16 (fa 22) (fd 22) ["_law_pool", "_law_text"] (spM K ca 2 m22) :=
  fn_okD (N := N22) (k := 15) (b := b22) T.F22 sc22 fun cdv A outer s H E hr =>
  (rss_cons (rs_set (i := 2) sc22.nd rfl (by first | exact .inl rfl | exact .inr rfl) (re_call (cd26 T gx_tk (hr.mono (by decide))) rfl T.g18 T.F18.kp (ra_cons (re_var (pv 0)) (ra_cons re_int ra_nil))))
  (rss_cons (rs_set (i := 3) sc22.nd rfl (by first | exact .inl rfl | exact .inr rfl) (re_call (cd26 T gx_tk (hr.mono (by decide))) rfl T.g18 T.F18.kp (ra_cons (re_var (pv 0)) (ra_cons (re_bin (op14 T gx_tk (hr.mono (by decide))) (re_callB (ln27 T gx_tk (hr.mono (by decide))) rfl T.z_len (by decide +kernel) (ra_cons (re_var (pv 1)) ra_nil)) re_int) ra_nil))))
  (rss_cons (rs_set (i := 4) sc22.nd rfl (by first | exact .inl rfl | exact .inr rfl) (re_call (cd29 T gx_tk (hr.mono (by decide))) rfl T.g21 T.F21.kp (ra_cons (re_var (pv 0)) ra_nil)))
  (rss_cons (rs_set (i := 5) sc22.nd rfl (by first | exact .inl rfl | exact .inr rfl) (re_slice sd_sl (re_var (pv 1)) (rp_some (re_var (pv 3))) (rp_some (re_bin (op14 T gx_tk (hr.mono (by decide))) (re_var (pv 3)) re_int))))
  (rss_cons (rs_if (rt_cmp (tr8 T gx_tk (hr.mono (by decide))) (eq25 T gx_tk (hr.mono (by decide))) (re_var (pv 2)) re_int) (rss_one (rs_ret (re_bin (op14 T gx_tk (hr.mono (by decide))) (re_bin (op14 T gx_tk (hr.mono (by decide))) (re_slice sd_sl (re_var (pv 1)) rp_none (rp_some (re_var (pv 3)))) (re_var (pv 4))) (re_slice sd_sl (re_var (pv 1)) (rp_some (re_var (pv 3))) rp_none)))) rss_nil)
  (rss_cons (rs_if (rt_cmp (tr8 T gx_tk (hr.mono (by decide))) (eq25 T gx_tk (hr.mono (by decide))) (re_var (pv 2)) re_int) (rss_one (rs_ret (re_bin (op14 T gx_tk (hr.mono (by decide))) (re_slice sd_sl (re_var (pv 1)) rp_none (rp_some (re_var (pv 3)))) (re_slice sd_sl (re_var (pv 1)) (rp_some (re_bin (op14 T gx_tk (hr.mono (by decide))) (re_var (pv 3)) re_int)) rp_none)))) rss_nil)
  (rss_cons (rs_if (rt_cmp (tr8 T gx_tk (hr.mono (by decide))) (eq25 T gx_tk (hr.mono (by decide))) (re_var (pv 2)) re_int) (rss_one (rs_ret (re_bin (op14 T gx_tk (hr.mono (by decide))) (re_bin (op14 T gx_tk (hr.mono (by decide))) (re_slice sd_sl (re_var (pv 1)) rp_none (rp_some (re_var (pv 3)))) (re_var (pv 5))) (re_slice sd_sl (re_var (pv 1)) (rp_some (re_var (pv 3))) rp_none)))) rss_nil)
  (rss_cons (rs_if (rt_cmp (tr8 T gx_tk (hr.mono (by decide))) (eq25 T gx_tk (hr.mono (by decide))) (re_var (pv 2)) re_int) (rss_one (rs_ret (re_bin (op14 T gx_tk (hr.mono (by decide))) (re_bin (op14 T gx_tk (hr.mono (by decide))) (re_bin (op14 T gx_tk (hr.mono (by decide))) (re_slice sd_sl (re_var (pv 1)) rp_none (rp_some (re_var (pv 3)))) (re_slice sd_sl (re_var (pv 1)) (rp_some (re_bin (op14 T gx_tk (hr.mono (by decide))) (re_var (pv 3)) re_int)) (rp_some (re_bin (op14 T gx_tk (hr.mono (by decide))) (re_var (pv 3)) re_int)))) (re_var (pv 5))) (re_slice sd_sl (re_var (pv 1)) (rp_some (re_bin (op14 T gx_tk (hr.mono (by decide))) (re_var (pv 3)) re_int)) rp_none)))) rss_nil)
  (rss_cons (rs_if (rt_cmp (tr8 T gx_tk (hr.mono (by decide))) (eq25 T gx_tk (hr.mono (by decide))) (re_var (pv 2)) re_int) (rss_one (rs_ret (re_rev (re_var (pv 1))))) rss_nil)
  (rss_one (rs_ret (re_bin (op14 T gx_tk (hr.mono (by decide))) (re_bin (op14 T gx_tk (hr.mono (by decide))) (re_slice sd_sl (re_var (pv 1)) rp_none (rp_some (re_var (pv 3)))) (re_var (pv 4))) (re_slice sd_sl (re_var (pv 1)) (rp_some (re_bin (op14 T gx_tk (hr.mono (by decide))) (re_var (pv 3)) re_int)) rp_none)))))))))))))
theorem ok23 {P : Program} {w : World} {K : PySem.W.Frag} {mg : Str → Option Value} {base : Heap} {ca fa pa : Nat → Addr} {fd : Nat → FuncData} (T : Txt K mg ca fa pa fd) : FnOk P w K mg base (L2.CX P w) 10 (fa 23) (fd 23) ["_law_text"] (spM K ca 1 m23) :=
  fn_okD (N := N23) (k := 9) (b := b23) T.F23 sc23 fun cdv A outer s H E hr =>
  (rss_one (rs_ret (re_bm PySem.F.plainAttrs_str PySem.F.slot_str_join PySem.F.type_str_join md_join re_str (ra_cons (re_l (rl_rd (pe_comp (own := [("_law_mark", 1)]) rfl sc23.nd (blkOk_by (own := [("_law_mark", 1)]) (N := N23) (sc := defScope s23) (by decide +kernel))) (rdl_comp (js := [1]) (vs := [1]) (ri_own gx_tk (hr.mono (by decide)) (ow11 T) re_str) (fun _ _ _ _ _ => (rg_name (i := 1) (js := [1]) sc23.nd rfl (by first | exact .inl rfl | exact .inr rfl) (by decide))) (fun _ _ _ _ _ => (rts_one (rt_cmp (tr8 T takes0 (hr.mono (by decide))) (in13 T takes0 (hr.mono (by decide))) (re_var (pv 1)) (re_var (pv 0))))) (fun _ _ _ _ _ => (re_var (pv 1))) (fun _ h => h)))) ra_nil))))
theorem ms30 {G : Gx} {fa pa : Nat → Addr} {fd : Nat → FuncData} (T : Txt G.X.K G.X.mg G.ca fa pa fd) (tk : Takes G.X G.E) (hr : Room 4 G.X.A) : MsOk G "text" [(3, mCall 1 [] m5)] :=
  (ms_cons (mo_mk T.cl3.cl T.me5 (call_defE tk (ok5 T) (hr.mono (by decide)) (bd5 T) (fun _ => .nil))) ms_nil)
theorem ok24 {P : Program} {w : World} {K : PySem.W.Frag} {mg : Str → Option Value} {base : Heap} {ca fa pa : Nat → Addr} {fd : Nat → FuncData} (T : Txt K mg ca fa pa fd) : FnOk P w K mg base (L2.CX P w) 10 (fa 24) (fd 24) ["_law_marks", "_law_due"] (spM K ca 2 m24) :=
  fn_okD (N := N24) (k := 9) (b := b24) T.F24 sc24 fun cdv A outer s H E hr =>
  (rss_cons (rs_if (rt_w (rw_or (rt_not (rt_val (tr8 T gx_tk (hr.mono (by decide))) (re_isiL (v2 := V.ref (ca 3)) (l := [(.non, false), (.bl, false), (.int, false), (.str, false), (.lst, false), (.tup, false), (.own 3, true)]) (is22 T) rv_ref (re_var (pv 0)) (pe_glob rfl T.mgc3 rfl) rfl T.z_isinstance))) (rw_or1 (rt_not (rt_val (tr8 T gx_tk (hr.mono (by decide))) (re_isiL (v2 := V.ty "str") (l := [(.non, false), (.bl, false), (.int, false), (.str, true), (.lst, false), (.tup, false), (.own 3, false)]) (is1 T) rv_ty (re_fld (fo_cons T.cl3.cl T.na3_letters fo_nil) (re_var (pv 0))) (pe_bltn (u := .type "str") rfl T.z_str (by decide +kernel) rfl) rfl T.z_isinstance)))))) (rss_one (rs_ret re_bl)) rss_nil)
  (rss_cons (rs_if (rt_w (rw_or (rt_cmp (tr8 T gx_tk (hr.mono (by decide))) (cd_ne hr) (re_fld (fo_cons T.cl3.cl T.na3_letters fo_nil) (re_var (pv 0))) (re_var (pv 1))) (rw_or1 (rt_cmp (tr8 T gx_tk (hr.mono (by decide))) (cd_ne hr) (re_callB (ln27 T gx_tk (hr.mono (by decide))) rfl T.z_len (by decide +kernel) (ra_cons (re_var (pv 0)) ra_nil)) (re_callB (ln27 T gx_tk (hr.mono (by decide))) rfl T.z_len (by decide +kernel) (ra_cons (re_var (pv 1)) ra_nil)))))) (rss_one (rs_ret re_bl)) rss_nil)
  (rss_cons (rs_if (rt_w (rw_or (rt_not (rt_val (tr8 T gx_tk (hr.mono (by decide))) (re_isiL (v2 := V.ty "str") (l := [(.non, false), (.bl, false), (.int, false), (.str, true), (.lst, false), (.tup, false), (.own 3, false)]) (is1 T) rv_ty (re_meth0 (re_var (pv 0)) (ms30 T gx_tk (hr.mono (by decide)))) (pe_bltn (u := .type "str") rfl T.z_str (by decide +kernel) rfl) rfl T.z_isinstance))) (rw_or1 (rt_cmp (tr8 T gx_tk (hr.mono (by decide))) (cd_ne hr) (re_meth0 (re_var (pv 0)) (ms30 T gx_tk (hr.mono (by decide)))) (re_bin (op14 T gx_tk (hr.mono (by decide))) (re_var (pv 1)) (re_bin (op23 T gx_tk (hr.mono (by decide))) re_str (re_callTy kd_int rfl T.z_int (by decide +kernel) (ra_cons (re_cmp (eq25 T gx_tk (hr.mono (by decide))) (re_var (pv 1)) re_str) ra_nil)))))))) (rss_one (rs_ret re_bl)) rss_nil)
  (rss_cons (rs_if (rt_cmp (tr8 T gx_tk (hr.mono (by decide))) (cd_ne hr) (re_l (rl_rd (pe_comp (own := [("_law_mark", 2)]) rfl sc24.nd (blkOk_by (own := [("_law_mark", 2)]) (N := N24) (sc := defScope s24) (by decide +kernel))) (rdl_comp (js := [2]) (vs := [2]) (ri_own gx_tk (hr.mono (by decide)) (ow11 T) (re_var (pv 0))) (fun _ _ _ _ _ => (rg_name (i := 2) (js := [2]) sc24.nd rfl (by first | exact .inl rfl | exact .inr rfl) (by decide))) (fun _ _ _ _ _ => rts_nil) (fun _ _ _ _ _ => (re_var (pv 2))) (fun _ h => h)))) (re_l (rl_rd (pe_comp (own := [("_law_mark", 2)]) rfl sc24.nd (blkOk_by (own := [("_law_mark", 2)]) (N := N24) (sc := defScope s24) (by decide +kernel))) (rdl_comp (js := [2]) (vs := [2]) (ri_own gx_tk (hr.mono (by decide)) (ow11 T) (re_var (pv 1))) (fun _ _ _ _ _ => (rg_name (i := 2) (js := [2]) sc24.nd rfl (by first | exact .inl rfl | exact .inr rfl) (by decide))) (fun _ _ _ _ _ => rts_nil) (fun _ _ _ _ _ => (re_var (pv 2))) (fun _ h => h))))) (rss_one (rs_ret re_bl)) rss_nil)
  (rss_one (rs_ret (re_cmp (eq25 T gx_tk (hr.mono (by decide))) (re_not (tr8 T gx_tk (hr.mono (by decide))) (re_var (pv 0))) (re_cmp (eq25 T gx_tk (hr.mono (by decide))) (re_var (pv 1)) re_str))))))))
end W00

namespace W00
open PySem PySem.Spec PyProof.Rows L2 ClX ItX Mi
theorem ok25 {P : Program} {w : World} {K : PySem.W.Frag} {mg : Str → Option Value} {base : Heap} {ca fa pa : Nat → Addr} {fd : Nat → FuncData} (T : Txt K mg ca fa pa fd) : FnOk P w K mg base (L2.CX P w) 10 (fa 25) (fd 25) ["_law_marks", "_law_due", "_law_longer"] (spM K ca 3 m25) :=
  fn_okD (N := N25) (k := 9) (b := b25) T.F25 sc25 fun cdv A outer s H E hr =>
  (rss_cons (rs_for gx_po rfl (ri_own gx_tk (hr.mono (by decide)) (ow11 T) re_str) (rg_name (i := 3) (js := [3]) sc25.nd rfl (by first | exact .inl rfl | exact .inr rfl) (by decide)) (rss_one (rs_if (rt_cmp (tr8 T gx_tk (hr.mono (by decide))) (cd_ne hr) (re_cmp (in13 T gx_tk (hr.mono (by decide))) (re_var (pv 3)) (re_var (pv 0))) (re_cmp (in13 T gx_tk (hr.mono (by decide))) (re_var (pv 3)) (re_var (pv 1)))) (rss_one (rs_ret re_bl)) rss_nil)))
  (rss_cons (rs_for gx_po rfl (ri_own gx_tk (hr.mono (by decide)) (ow11 T) (re_l (rl_lst (ra_cons re_str (ra_cons re_str (ra_cons re_str (ra_cons re_str (ra_cons re_str (ra_cons re_str (ra_cons re_str (ra_cons re_str (ra_cons re_str (ra_cons (re_bin (op14 T gx_tk (hr.mono (by decide))) (re_var (pv 2)) re_str) ra_nil))))))))))))) (rg_name (i := 4) (js := [4]) sc25.nd rfl (by first | exact .inl rfl | exact .inr rfl) (by decide)) (rss_one (rs_if (rt_cmp (tr8 T gx_tk (hr.mono (by decide))) (in13 T gx_tk (hr.mono (by decide))) (re_var (pv 4)) (re_var (pv 0))) (rss_one (rs_ret re_bl)) rss_nil)))
  (rss_one (rs_ret re_bl))))
theorem cd31 {G : Gx} {fa pa : Nat → Addr} {fd : Nat → FuncData} (T : Txt G.X.K G.X.mg G.ca fa pa fd) (tk : Takes G.X G.E) (hr : Room 10 G.X.A) : CallD G (.ref (fa 23)) (mCall 1 [] m23) :=
  call_defE tk (ok23 T) hr (bd23 T) (fun _ => .nil)
theorem tb32 {G : Gx} {fa pa : Nat → Addr} {fd : Nat → FuncData} (T : Txt G.X.K G.X.mg G.ca fa pa fd) : TabOk G 13 "__xor__" 2 [(3, m12)] :=
  (tb_meth (df_mk (ok12 T) (bd12 T)) (by decide) T.me12 T.sf3 tb_nil)
theorem op33 {G : Gx} {fa pa : Nat → Addr} {fd : Nat → FuncData} (T : Txt G.X.K G.X.mg G.ca fa pa fd) (tk : Takes G.X G.E) (hr : Room 13 G.X.A) : OpD G (binaryOp .BitXor) (ownOp [(3, m12)]) :=
  od_own (k := 13) tk hr (tb32 T)
theorem tb34 {G : Gx} {fa pa : Nat → Addr} {fd : Nat → FuncData} (T : Txt G.X.K G.X.mg G.ca fa pa fd) : TabOk G 10 "__invert__" 1 [(3, m13)] :=
  (tb_meth (df_mk (ok13 T) (bd13 T)) (by decide) T.me13 T.sf3 tb_nil)
theorem un35 {G : Gx} {fa pa : Nat → Addr} {fd : Nat → FuncData} (T : Txt G.X.K G.X.mg G.ca fa pa fd) (tk : Takes G.X G.E) (hr : Room 10 G.X.A) : UnD G (unaryOp .Invert) (ownUn [(3, m13)]) :=
  ud_inv (k := 10) tk hr (tb34 T)
theorem cd36 {G : Gx} {fa pa : Nat → Addr} {fd : Nat → FuncData} (T : Txt G.X.K G.X.mg G.ca fa pa fd) (tk : Takes G.X G.E) (hr : Room 10 G.X.A) : CallD G (.ref (fa 24)) (mCall 2 [] m24) :=
  call_defE tk (ok24 T) hr (bd24 T) (fun _ => .nil)
theorem ok26 {P : Program} {w : World} {K : PySem.W.Frag} {mg : Str → Option Value} {base : Heap} {ca fa pa : Nat → Addr} {fd : Nat → FuncData} (T : Txt K mg ca fa pa fd) : FnOk P w K mg base (L2.CX P w) 16 (fa 26) (fd 26) ["_law_a", "_law_b", "_law_one", "_law_two"] (spM K ca 4 m26) :=
  fn_okD (N := N26) (k := 15) (b := b26) T.F26 sc26 fun cdv A outer s H E hr =>
  (rss_cons (rs_set (i := 4) sc26.nd rfl (by first | exact .inl rfl | exact .inr rfl) (re_bm PySem.F.plainAttrs_str PySem.F.slot_str_join PySem.F.type_str_join md_join re_str (ra_cons (re_l (rl_rd (pe_comp (own := [("_law_mark", 13)]) rfl sc26.nd (blkOk_by (own := [("_law_mark", 13)]) (N := N26) (sc := defScope s26) (by decide +kernel))) (rdl_comp (js := [13]) (vs := [13]) (ri_own gx_tk (hr.mono (by decide)) (ow11 T) (re_var (pv 2))) (fun _ _ _ _ _ => (rg_name (i := 13) (js := [13]) sc26.nd rfl (by first | exact .inl rfl | exact .inr rfl) (by decide))) (fun _ _ _ _ _ => (rts_one (rt_cmp (tr8 T takes0 (hr.mono (by decide))) (in13 T takes0 (hr.mono (by decide))) (re_var (pv 13)) (re_var (pv 3))))) (fun _ _ _ _ _ => (re_var (pv 13))) (fun _ h => h)))) ra_nil)))
  (rss_cons (rs_set (i := 5) sc26.nd rfl (by first | exact .inl rfl | exact .inr rfl) (re_bm PySem.F.plainAttrs_str PySem.F.slot_str_join PySem.F.type_str_join md_join re_str (ra_cons (re_l (rl_rd (pe_comp (own := [("_law_mark", 13)]) rfl sc26.nd (blkOk_by (own := [("_law_mark", 13)]) (N := N26) (sc := defScope s26) (by decide +kernel))) (rdl_comp (js := [13]) (vs := [13]) (ri_own gx_tk (hr.mono (by decide)) (ow11 T) (re_var (pv 2))) (fun _ _ _ _ _ => (rg_name (i := 13) (js := [13]) sc26.nd rfl (by first | exact .inl rfl | exact .inr rfl) (by decide))) (fun _ _ _ _ _ => (rts_one (rt_cmp (tr8 T takes0 (hr.mono (by decide))) (in15 T takes0 (hr.mono (by decide))) (re_var (pv 13)) (re_var (pv 3))))) (fun _ _ _ _ _ => (re_var (pv 13))) (fun _ h => h)))) ra_nil)))
  (rss_cons (rs_set (i := 6) sc26.nd rfl (by first | exact .inl rfl | exact .inr rfl) (re_bm PySem.F.plainAttrs_str PySem.F.slot_str_join PySem.F.type_str_join md_join re_str (ra_cons (re_l (rl_rd (pe_comp (own := [("_law_mark", 13)]) rfl sc26.nd (blkOk_by (own := [("_law_mark", 13)]) (N := N26) (sc := defScope s26) (by decide +kernel))) (rdl_comp (js := [13]) (vs := [13]) (ri_own gx_tk (hr.mono (by decide)) (ow11 T) (re_var (pv 3))) (fun _ _ _ _ _ => (rg_name (i := 13) (js := [13]) sc26.nd rfl (by first | exact .inl rfl | exact .inr rfl) (by decide))) (fun _ _ _ _ _ => (rts_one (rt_cmp (tr8 T takes0 (hr.mono (by decide))) (in15 T takes0 (hr.mono (by decide))) (re_var (pv 13)) (re_var (pv 2))))) (fun _ _ _ _ _ => (re_var (pv 13))) (fun _ h => h)))) ra_nil)))
  (rss_cons (rs_set (i := 7) sc26.nd rfl (by first | exact .inl rfl | exact .inr rfl) (re_call (cd31 T gx_tk (hr.mono (by decide))) rfl T.g23 T.F23.kp (ra_cons (re_bin (op14 T gx_tk (hr.mono (by decide))) (re_var (pv 2)) (re_var (pv 3))) ra_nil)))
  (rss_cons (rs_set (i := 8) sc26.nd rfl (by first | exact .inl rfl | exact .inr rfl) (re_call (cd31 T gx_tk (hr.mono (by decide))) rfl T.g23 T.F23.kp (ra_cons (re_bin (op14 T gx_tk (hr.mono (by decide))) (re_var (pv 5)) (re_var (pv 6))) ra_nil)))
  (rss_cons (rs_set (i := 9) sc26.nd rfl (by first | exact .inl rfl | exact .inr rfl) (re_bm PySem.F.plainAttrs_str PySem.F.slot_str_join PySem.F.type_str_join md_join re_str (ra_cons (re_l (rl_rd (pe_comp (own := [("_law_mark", 13)]) rfl sc26.nd (blkOk_by (own := [("_law_mark", 13)]) (N := N26) (sc := defScope s26) (by decide +kernel))) (rdl_comp (js := [13]) (vs := [13]) (ri_own gx_tk (hr.mono (by decide)) (ow11 T) re_str) (fun _ _ _ _ _ => (rg_name (i := 13) (js := [13]) sc26.nd rfl (by first | exact .inl rfl | exact .inr rfl) (by decide))) (fun _ _ _ _ _ => (rts_one (rt_cmp (tr8 T takes0 (hr.mono (by decide))) (in15 T takes0 (hr.mono (by decide))) (re_var (pv 13)) (re_var (pv 2))))) (fun _ _ _ _ _ => (re_var (pv 13))) (fun _ h => h)))) ra_nil)))
  (rss_cons (rs_set (i := 10) sc26.nd rfl (by first | exact .inl rfl | exact .inr rfl) (re_l (rl_lst (ra_cons (re_tup (ra_cons (re_bin (op21 T gx_tk (hr.mono (by decide))) (re_var (pv 0)) (re_var (pv 1))) (ra_cons (re_var (pv 4)) ra_nil))) (ra_cons (re_tup (ra_cons (re_bin (op21 T gx_tk (hr.mono (by decide))) (re_var (pv 1)) (re_var (pv 0))) (ra_cons (re_var (pv 4)) ra_nil))) (ra_cons (re_tup (ra_cons (re_bin (op21 T gx_tk (hr.mono (by decide))) (re_var (pv 0)) (re_var (pv 0))) (ra_cons (re_var (pv 2)) ra_nil))) ra_nil))))))
  (rss_cons (rs_set (i := 10) sc26.nd rfl (by first | exact .inl rfl | exact .inr rfl) (re_bin (op14 T gx_tk (hr.mono (by decide))) (re_var (pv 10)) (re_l (rl_lst (ra_cons (re_tup (ra_cons (re_bin (op19 T gx_tk (hr.mono (by decide))) (re_var (pv 0)) (re_var (pv 1))) (ra_cons (re_var (pv 7)) ra_nil))) (ra_cons (re_tup (ra_cons (re_bin (op19 T gx_tk (hr.mono (by decide))) (re_var (pv 1)) (re_var (pv 0))) (ra_cons (re_var (pv 7)) ra_nil))) ra_nil))))))
  (rss_cons (rs_set (i := 10) sc26.nd rfl (by first | exact .inl rfl | exact .inr rfl) (re_bin (op14 T gx_tk (hr.mono (by decide))) (re_var (pv 10)) (re_l (rl_lst (ra_cons (re_tup (ra_cons (re_bin (op17 T gx_tk (hr.mono (by decide))) (re_var (pv 0)) (re_var (pv 1))) (ra_cons (re_var (pv 5)) ra_nil))) (ra_cons (re_tup (ra_cons (re_bin (op17 T gx_tk (hr.mono (by decide))) (re_var (pv 1)) (re_var (pv 0))) (ra_cons (re_var (pv 6)) ra_nil))) ra_nil))))))
  (rss_cons (rs_set (i := 10) sc26.nd rfl (by first | exact .inl rfl | exact .inr rfl) (re_bin (op14 T gx_tk (hr.mono (by decide))) (re_var (pv 10)) (re_l (rl_lst (ra_cons (re_tup (ra_cons (re_bin (op17 T gx_tk (hr.mono (by decide))) (re_var (pv 0)) (re_var (pv 0))) (ra_cons re_str ra_nil))) (ra_cons (re_tup (ra_cons (re_bin (op19 T gx_tk (hr.mono (by decide))) (re_var (pv 0)) (re_var (pv 0))) (ra_cons (re_var (pv 2)) ra_nil))) ra_nil))))))
  (rss_cons (rs_set (i := 10) sc26.nd rfl (by first | exact .inl rfl | exact .inr rfl) (re_bin (op14 T gx_tk (hr.mono (by decide))) (re_var (pv 10)) (re_l (rl_lst (ra_cons (re_tup (ra_cons (re_bin (op33 T gx_tk (hr.mono (by decide))) (re_var (pv 0)) (re_var (pv 1))) (ra_cons (re_var (pv 8)) ra_nil))) (ra_cons (re_tup (ra_cons (re_bin (op33 T gx_tk (hr.mono (by decide))) (re_var (pv 1)) (re_var (pv 0))) (ra_cons (re_var (pv 8)) ra_nil))) (ra_cons (re_tup (ra_cons (re_bin (op33 T gx_tk (hr.mono (by decide))) (re_var (pv 0)) (re_var (pv 0))) (ra_cons re_str ra_nil))) ra_nil)))))))
  (rss_cons (rs_set (i := 10) sc26.nd rfl (by first | exact .inl rfl | exact .inr rfl) (re_bin (op14 T gx_tk (hr.mono (by decide))) (re_var (pv 10)) (re_l (rl_lst (ra_cons (re_tup (ra_cons (re_un (un35 T gx_tk (hr.mono (by decide))) (re_var (pv 0))) (ra_cons (re_var (pv 9)) ra_nil))) (ra_cons (re_tup (ra_cons (re_un (un35 T gx_tk (hr.mono (by decide))) (re_un (un35 T gx_tk (hr.mono (by decide))) (re_var (pv 0)))) (ra_cons (re_var (pv 2)) ra_nil))) (ra_cons (re_tup (ra_cons (re_bin (op19 T gx_tk (hr.mono (by decide))) (re_var (pv 0)) (re_un (un35 T gx_tk (hr.mono (by decide))) (re_var (pv 0)))) (ra_cons re_str ra_nil))) ra_nil)))))))
  (rss_cons (rs_for gx_po rfl (ri_own gx_tk (hr.mono (by decide)) (ow11 T) (re_bin (op14 T gx_tk (hr.mono (by decide))) (re_var (pv 10)) (re_l (rl_lst (ra_cons (re_tup (ra_cons (re_bin (op21 T gx_tk (hr.mono (by decide))) (re_var (pv 0)) (re_un (un35 T gx_tk (hr.mono (by decide))) (re_var (pv 0)))) (ra_cons re_str ra_nil))) (ra_cons (re_tup (ra_cons (re_bin (op17 T gx_tk (hr.mono (by decide))) (re_var (pv 1)) (re_un (un35 T gx_tk (hr.mono (by decide))) (re_var (pv 0)))) (ra_cons (re_var (pv 4)) ra_nil))) ra_nil)))))) (rg_tup rfl (rgs_cons (rg_name (i := 11) (js := [11, 12]) sc26.nd rfl (by first | exact .inl rfl | exact .inr rfl) (by decide)) (rgs_cons (rg_name (i := 12) (js := [11, 12]) sc26.nd rfl (by first | exact .inl rfl | exact .inr rfl) (by decide)) rgs_nil))) (rss_one (rs_if (rt_not (rt_val (tr8 T gx_tk (hr.mono (by decide))) (re_call (cd36 T gx_tk (hr.mono (by decide))) rfl T.g24 T.F24.kp (ra_cons (re_var (pv 11)) (ra_cons (re_var (pv 12)) ra_nil))))) (rss_one (rs_ret re_bl)) rss_nil)))
  (rss_one (rs_ret re_bl)))))))))))))))
theorem tb37 {G : Gx} {fa pa : Nat → Addr} {fd : Nat → FuncData} (T : Txt G.X.K G.X.mg G.ca fa pa fd) : TabOk G 10 "__le__" 2 [(3, m14)] :=
  (tb_meth (df_mk (ok14 T) (bd14 T)) (by decide) T.me14 T.sf3 tb_nil)
theorem le38 {G : Gx} {fa pa : Nat → Addr} {fd : Nat → FuncData} (T : Txt G.X.K G.X.mg G.ca fa pa fd) (tk : Takes G.X G.E) (hr : Room 10 G.X.A) : OpD G (compareOp .LtE) (leD [(3, m14)] (nfL [((3, .non), true), ((3, .bl), true), ((3, .int), true), ((3, .str), true), ((3, .lst), true), ((3, .tup), true), ((3, .own 3), true)])) :=
  cd_leL (k := 10) tk hr (tb37 T) (al_cons ⟨T.nf3_non, co_no⟩ (al_cons ⟨T.nf3_bl, co_no⟩ (al_cons ⟨T.nf3_int, co_no⟩ (al_cons ⟨T.nf3_str, co_no⟩ (al_cons ⟨T.nf3_lst, co_no⟩ (al_cons ⟨T.nf3_tup, co_no⟩ (al_cons ⟨T.nf3_3o, co_own T.cl3⟩ al_nil)))))))
theorem nw39 {G : Gx} {fa pa : Nat → Addr} {fd : Nat → FuncData} (T : Txt G.X.K G.X.mg G.ca fa pa fd) (tk : Takes G.X G.E) (hr : Room 8 G.X.A) : CallD G (.ref (G.ca 3)) (mNew 3 1 [(D.str "")] mi4) :=
  call_newE tk T.mk3 (ok4 T) hr (bd4_1 T) (fun _ => (.cons (.str _) .nil))
theorem ok27 {P : Program} {w : World} {K : PySem.W.Frag} {mg : Str → Option Value} {base : Heap} {ca fa pa : Nat → Addr} {fd : Nat → FuncData} (T : Txt K mg ca fa pa fd) : FnOk P w K mg base (L2.CX P w) 13 (fa 27) (fd 27) ["_law_a", "_law_b", "_law_one", "_law_two"] (spM K ca 4 m27) :=
  fn_okD (N := N27) (k := 12) (b := b27) T.F27 sc27 fun cdv A outer s H E hr =>
  (rss_cons (rs_set (i := 4) sc27.nd rfl (by first | exact .inl rfl | exact .inr rfl) (re_cmp (eq25 T gx_tk (hr.mono (by decide))) (re_l (rl_rd (pe_comp (own := [("_law_mark", 9)]) rfl sc27.nd (blkOk_by (own := [("_law_mark", 9)]) (N := N27) (sc := defScope s27) (by decide +kernel))) (rdl_comp (js := [9]) (vs := [9]) (ri_own gx_tk (hr.mono (by decide)) (ow11 T) (re_var (pv 2))) (fun _ _ _ _ _ => (rg_name (i := 9) (js := [9]) sc27.nd rfl (by first | exact .inl rfl | exact .inr rfl) (by decide))) (fun _ _ _ _ _ => (rts_one (rt_cmp (tr8 T takes0 (hr.mono (by decide))) (in15 T takes0 (hr.mono (by decide))) (re_var (pv 9)) (re_var (pv 3))))) (fun _ _ _ _ _ => (re_var (pv 9))) (fun _ h => h)))) (re_l (rl_lst ra_nil))))
  (rss_cons (rs_set (i := 5) sc27.nd rfl (by first | exact .inl rfl | exact .inr rfl) (re_cmp (eq25 T gx_tk (hr.mono (by decide))) (re_l (rl_rd (pe_comp (own := [("_law_mark", 9)]) rfl sc27.nd (blkOk_by (own := [("_law_mark", 9)]) (N := N27) (sc := defScope s27) (by decide +kernel))) (rdl_comp (js := [9]) (vs := [9]) (ri_own gx_tk (hr.mono (by decide)) (ow11 T) (re_var (pv 3))) (fun _ _ _ _ _ => (rg_name (i := 9) (js := [9]) sc27.nd rfl (by first | exact .inl rfl | exact .inr rfl) (by decide))) (fun _ _ _ _ _ => (rts_one (rt_cmp (tr8 T takes0 (hr.mono (by decide))) (in15 T takes0 (hr.mono (by decide))) (re_var (pv 9)) (re_var (pv 2))))) (fun _ _ _ _ _ => (re_var (pv 9))) (fun _ h => h)))) (re_l (rl_lst ra_nil))))
  (rss_cons (rs_set (i := 6) sc27.nd rfl (by first | exact .inl rfl | exact .inr rfl) (re_l (rl_lst (ra_cons (re_tup (ra_cons (re_cmp (le38 T gx_tk (hr.mono (by decide))) (re_var (pv 0)) (re_var (pv 1))) (ra_cons (re_var (pv 4)) ra_nil))) (ra_cons (re_tup (ra_cons (re_cmp (le38 T gx_tk (hr.mono (by decide))) (re_var (pv 1)) (re_var (pv 0))) (ra_cons (re_var (pv 5)) ra_nil))) (ra_cons (re_tup (ra_cons (re_cmp (le38 T gx_tk (hr.mono (by decide))) (re_var (pv 0)) (re_var (pv 0))) (ra_cons re_bl ra_nil))) ra_nil))))))
  (rss_cons (rs_set (i := 6) sc27.nd rfl (by first | exact .inl rfl | exact .inr rfl) (re_bin (op14 T gx_tk (hr.mono (by decide))) (re_var (pv 6)) (re_l (rl_lst (ra_cons (re_tup (ra_cons (re_cmp (le38 T gx_tk (hr.mono (by decide))) (re_call0 (nw39 T gx_tk (hr.mono (by decide))) rfl T.mgc3 T.kc3) (re_var (pv 0))) (ra_cons re_bl ra_nil))) (ra_cons (re_tup (ra_cons (re_cmp (le38 T gx_tk (hr.mono (by decide))) (re_var (pv 0)) (re_call (nw10 T gx_tk (hr.mono (by decide))) rfl T.mgc3 T.kc3 (ra_cons re_str ra_nil))) (ra_cons re_bl ra_nil))) ra_nil))))))
  (rss_cons (rs_set (i := 6) sc27.nd rfl (by first | exact .inl rfl | exact .inr rfl) (re_bin (op14 T gx_tk (hr.mono (by decide))) (re_var (pv 6)) (re_l (rl_lst (ra_cons (re_tup (ra_cons (re_cmp (eq25 T gx_tk (hr.mono (by decide))) (re_var (pv 0)) (re_var (pv 1))) (ra_cons (re_cmp (eq25 T gx_tk (hr.mono (by decide))) (re_var (pv 2)) (re_var (pv 3))) ra_nil))) (ra_cons (re_tup (ra_cons (re_cmp (eq25 T gx_tk (hr.mono (by decide))) (re_var (pv 1)) (re_var (pv 0))) (ra_cons (re_cmp (eq25 T gx_tk (hr.mono (by decide))) (re_var (pv 2)) (re_var (pv 3))) ra_nil))) ra_nil))))))
  (rss_cons (rs_set (i := 6) sc27.nd rfl (by first | exact .inl rfl | exact .inr rfl) (re_bin (op14 T gx_tk (hr.mono (by decide))) (re_var (pv 6)) (re_l (rl_lst (ra_cons (re_tup (ra_cons (re_cmp (eq25 T gx_tk (hr.mono (by decide))) (re_var (pv 0)) (re_var (pv 0))) (ra_cons re_bl ra_nil))) (ra_cons (re_tup (ra_cons (re_cmp (eq25 T gx_tk (hr.mono (by decide))) (re_var (pv 0)) (re_call (nw10 T gx_tk (hr.mono (by decide))) rfl T.mgc3 T.kc3 (ra_cons (re_var (pv 2)) ra_nil))) (ra_cons re_bl ra_nil))) ra_nil))))))
  (rss_cons (rs_set (i := 6) sc27.nd rfl (by first | exact .inl rfl | exact .inr rfl) (re_bin (op14 T gx_tk (hr.mono (by decide))) (re_var (pv 6)) (re_l (rl_lst (ra_cons (re_tup (ra_cons (re_cmp (eq25 T gx_tk (hr.mono (by decide))) (re_var (pv 0)) (re_un (un35 T gx_tk (hr.mono (by decide))) (re_var (pv 0)))) (ra_cons re_bl ra_nil))) (ra_cons (re_tup (ra_cons (re_cmp (eq25 T gx_tk (hr.mono (by decide))) (re_var (pv 0)) (re_var (pv 2))) (ra_cons re_bl ra_nil))) ra_nil))))))
  (rss_cons (rs_set (i := 6) sc27.nd rfl (by first | exact .inl rfl | exact .inr rfl) (re_bin (op14 T gx_tk (hr.mono (by decide))) (re_var (pv 6)) (re_l (rl_lst (ra_cons (re_tup (ra_cons (re_cmp (eq25 T gx_tk (hr.mono (by decide))) (re_var (pv 0)) (re_l (rl_lst (ra_cons (re_var (pv 2)) ra_nil)))) (ra_cons re_bl ra_nil))) (ra_cons (re_tup (ra_cons (re_cmp (eq25 T gx_tk (hr.mono (by decide))) (re_var (pv 0)) re_int) (ra_cons re_bl ra_nil))) ra_nil))))))
  (rss_cons (rs_for gx_po rfl (ri_own gx_tk (hr.mono (by decide)) (ow11 T) (re_var (pv 6))) (rg_tup rfl (rgs_cons (rg_name (i := 7) (js := [7, 8]) sc27.nd rfl (by first | exact .inl rfl | exact .inr rfl) (by decide)) (rgs_cons (rg_name (i := 8) (js := [7, 8]) sc27.nd rfl (by first | exact .inl rfl | exact .inr rfl) (by decide)) rgs_nil))) (rss_one (rs_if (rt_cmp (tr8 T gx_tk (hr.mono (by decide))) (cd_ne hr) (re_cmp cd_is (re_var (pv 7)) re_bl) (re_var (pv 8))) (rss_one (rs_ret re_bl)) rss_nil)))
  (rss_one (rs_ret re_bl)))))))))))
theorem ix40 {G : Gx} {fa pa : Nat → Addr} {fd : Nat → FuncData} (T : Txt G.X.K G.X.mg G.ca fa pa fd) : ∀ c b, List.lookup c ([(1, true), (2, false)] : ClB) = some b → PySem.W.kitOne G.X.K (.ref (G.ca c)) (.ref (G.ca 1)) = some b ∧ ExcC G.X.K (G.ca c) ∧ (PySem.W.clsIn G.X.K (G.ca c)).isSome = true :=
  (al_cons ⟨T.kitx1_c1, T.xc1, T.xi1⟩ (al_cons ⟨T.kitx2_c1, T.xc2, T.xi2⟩ al_nil))
theorem ix41 {G : Gx} {fa pa : Nat → Addr} {fd : Nat → FuncData} (T : Txt G.X.K G.X.mg G.ca fa pa fd) : ∀ c b, List.lookup c ([(1, false), (2, true)] : ClB) = some b → PySem.W.kitOne G.X.K (.ref (G.ca c)) (.ref (G.ca 2)) = some b ∧ ExcC G.X.K (G.ca c) ∧ (PySem.W.clsIn G.X.K (G.ca c)).isSome = true :=
  (al_cons ⟨T.kitx1_c2, T.xc1, T.xi1⟩ (al_cons ⟨T.kitx2_c2, T.xc2, T.xi2⟩ al_nil))
end W00

namespace W00
open PySem PySem.Spec PyProof.Rows L2 ClX ItX Mi
theorem ix42 {G : Gx} {fa pa : Nat → Addr} {fd : Nat → FuncData} (T : Txt G.X.K G.X.mg G.ca fa pa fd) : ∀ c b, List.lookup c ([(1, true), (2, true)] : ClB) = some b → PySem.W.kitOne G.X.K (.ref (G.ca c)) (.type "ValueError") = some b ∧ ExcC G.X.K (G.ca c) ∧ (PySem.W.clsIn G.X.K (G.ca c)).isSome = true :=
  (al_cons ⟨T.kitx1_ValueError, T.xc1, T.xi1⟩ (al_cons ⟨T.kitx2_ValueError, T.xc2, T.xi2⟩ al_nil))
theorem ok28 {P : Program} {w : World} {K : PySem.W.Frag} {mg : Str → Option Value} {base : Heap} {ca fa pa : Nat → Addr} {fd : Nat → FuncData} (T : Txt K mg ca fa pa fd) : FnOk P w K mg base (L2.CX P w) 13 (fa 28) (fd 28) ["_law_text"] (spM K ca 1 m28) :=
  fn_okD (N := N28) (k := 12) (b := b28) T.F28 sc28 fun cdv A outer s H E hr =>
  (rss_cons (rs_set (i := 1) sc28.nd rfl (by first | exact .inl rfl | exact .inr rfl) (re_cmp (eq25 T gx_tk (hr.mono (by decide))) (re_l (rl_rd (pe_comp (own := [("_law_char_here", 4)]) rfl sc28.nd (blkOk_by (own := [("_law_char_here", 4)]) (N := N28) (sc := defScope s28) (by decide +kernel))) (rdl_comp (js := [4]) (vs := [4]) (ri_own gx_tk (hr.mono (by decide)) (ow11 T) (re_var (pv 0))) (fun _ _ _ _ _ => (rg_name (i := 4) (js := [4]) sc28.nd rfl (by first | exact .inl rfl | exact .inr rfl) (by decide))) (fun _ _ _ _ _ => (rts_one (rt_cmp (tr8 T takes0 (hr.mono (by decide))) (in15 T takes0 (hr.mono (by decide))) (re_var (pv 4)) re_str))) (fun _ _ _ _ _ => (re_var (pv 4))) (fun _ h => h)))) (re_l (rl_lst ra_nil))))
  (rss_cons (rs_try_as (i := 3) (sub := (subL [(1, true), (2, true)])) rfl rfl sc28.nd rfl rfl ⟨rfl, by decide, .inl T.mgc0⟩ gx_tk (al_cons T.exm1_c0 (al_cons T.exm2_c0 al_nil)) (fun W pn xe tk po => (rss_one (rs_set (i := 2) sc28.nd rfl (by first | exact .inl rfl | exact .inr rfl) (re_call (nw10 T tk (hr.mono (by decide))) rfl T.mgc3 T.kc3 (ra_cons (re_var (pv 0)) ra_nil))))) (fun a oe cls d pn hz hd => (rss_cons (rs_if (rt_w (rw_or (rt_val td_truS (re_var (pv 1))) (rw_or (rt_not (rt_val td_truS (re_isXL (v2 := V.ref (ca 1)) (ix40 T) rv_ref hz hd (pv 3) (pe_glob rfl T.mgc1 rfl) rfl T.z_isinstance))) (rw_or1 (rt_val td_truS (re_isXL (v2 := V.ref (ca 2)) (ix41 T) rv_ref hz hd (pv 3) (pe_glob rfl T.mgc2 rfl) rfl T.z_isinstance)))))) (rss_one (rs_ret re_bl)) rss_nil)
  (rss_one (rs_ret (re_and td_truS (re_isXL (v2 := V.ty "ValueError") (ix42 T) rv_ty hz hd (pv 3) (pe_bltn (u := .type "ValueError") rfl T.z_ValueError (by decide +kernel) rfl) rfl T.z_isinstance) (re_one (re_cmp cd_eqS (re_xf (mb_cons ⟨T.xf1, T.na1_given⟩ mb_nil) hz hd (pv 3)) (re_var (pv 0))))))))) rfl)
  (rss_one (rs_ret (re_and (tr8 T gx_tk (hr.mono (by decide))) (re_var (pv 1)) (re_one (re_call (cd36 T gx_tk (hr.mono (by decide))) rfl T.g24 T.F24.kp (ra_cons (re_var (pv 2)) (ra_cons (re_call (cd31 T gx_tk (hr.mono (by decide))) rfl T.g23 T.F23.kp (ra_cons (re_var (pv 0)) ra_nil)) ra_nil)))))))))
theorem ok29 {P : Program} {w : World} {K : PySem.W.Frag} {mg : Str → Option Value} {base : Heap} {ca fa pa : Nat → Addr} {fd : Nat → FuncData} (T : Txt K mg ca fa pa fd) : FnOk P w K mg base (L2.CX P w) 13 (fa 29) (fd 29) ["_law_text"] (spM K ca 1 m29) :=
  fn_okD (N := N29) (k := 12) (b := b29) T.F29 sc29 fun cdv A outer s H E hr =>
  (rss_cons (rs_set (i := 1) sc29.nd rfl (by first | exact .inl rfl | exact .inr rfl) (re_call (cd31 T gx_tk (hr.mono (by decide))) rfl T.g23 T.F23.kp (ra_cons (re_var (pv 0)) ra_nil)))
  (rss_cons (rs_set (i := 2) sc29.nd rfl (by first | exact .inl rfl | exact .inr rfl) (re_or (tr8 T gx_tk (hr.mono (by decide))) (re_cmp (eq25 T gx_tk (hr.mono (by decide))) (re_var (pv 0)) re_str) (re_one (re_and (tr8 T gx_tk (hr.mono (by decide))) (re_cmp (cd_ne hr) (re_var (pv 0)) re_str) (re_one (re_cmp (eq25 T gx_tk (hr.mono (by decide))) (re_var (pv 1)) (re_var (pv 0))))))))
  (rss_cons (rs_try_as (i := 4) (sub := (subL [(1, true), (2, true)])) rfl rfl sc29.nd rfl rfl ⟨rfl, by decide, .inl T.mgc0⟩ gx_tk (al_cons T.exm1_c0 (al_cons T.exm2_c0 al_nil)) (fun W pn xe tk po => (rss_one (rs_set (i := 3) sc29.nd rfl (by first | exact .inl rfl | exact .inr rfl) (re_cmeth tk (hr.mono (by decide)) rfl T.mgc3 T.cr3 T.cm16 (df_mk (ok16 T) (bd16 T)) (ra_cons (re_var (pv 0)) ra_nil))))) (fun a oe cls d pn hz hd => (rss_cons (rs_if (rt_w (rw_or (rt_val td_truS (re_var (pv 2))) (rw_or (rt_not (rt_val td_truS (re_isXL (v2 := V.ref (ca 2)) (ix41 T) rv_ref hz hd (pv 4) (pe_glob rfl T.mgc2 rfl) rfl T.z_isinstance))) (rw_or1 (rt_val td_truS (re_isXL (v2 := V.ref (ca 1)) (ix40 T) rv_ref hz hd (pv 4) (pe_glob rfl T.mgc1 rfl) rfl T.z_isinstance)))))) (rss_one (rs_ret re_bl)) rss_nil)
  (rss_one (rs_ret (re_and td_truS (re_isXL (v2 := V.ty "ValueError") (ix42 T) rv_ty hz hd (pv 4) (pe_bltn (u := .type "ValueError") rfl T.z_ValueError (by decide +kernel) rfl) rfl T.z_isinstance) (re_and td_truS (re_cmp cd_eqS (re_xf (mb_cons ⟨T.xf2, T.na2_at⟩ mb_nil) hz hd (pv 4)) re_int) (re_one (re_cmp cd_isnot (re_xf (mb_cons ⟨T.xf2, T.na2_at⟩ mb_nil) hz hd (pv 4)) re_bl)))))))) rfl)
  (rss_one (rs_ret (re_and (tr8 T gx_tk (hr.mono (by decide))) (re_var (pv 2)) (re_one (re_call (cd36 T gx_tk (hr.mono (by decide))) rfl T.g24 T.F24.kp (ra_cons (re_var (pv 3)) (ra_cons (re_var (pv 1)) ra_nil))))))))))
theorem cd43 {G : Gx} {fa pa : Nat → Addr} {fd : Nat → FuncData} (T : Txt G.X.K G.X.mg G.ca fa pa fd) (tk : Takes G.X G.E) (hr : Room 7 G.X.A) : CallD G (.ref (fa 17)) (mCall 1 [] m17) :=
  call_defE tk (ok17 T) hr (bd17 T) (fun _ => .nil)
theorem cd44 {G : Gx} {fa pa : Nat → Addr} {fd : Nat → FuncData} (T : Txt G.X.K G.X.mg G.ca fa pa fd) (tk : Takes G.X G.E) (hr : Room 16 G.X.A) : CallD G (.ref (fa 20)) (mCall 2 [] m20) :=
  call_defE tk (ok20 T) hr (bd20 T) (fun _ => .nil)
theorem cd45 {G : Gx} {fa pa : Nat → Addr} {fd : Nat → FuncData} (T : Txt G.X.K G.X.mg G.ca fa pa fd) (tk : Takes G.X G.E) (hr : Room 10 G.X.A) : CallD G (.ref (fa 25)) (mCall 3 [] m25) :=
  call_defE tk (ok25 T) hr (bd25 T) (fun _ => .nil)
theorem cd46 {G : Gx} {fa pa : Nat → Addr} {fd : Nat → FuncData} (T : Txt G.X.K G.X.mg G.ca fa pa fd) (tk : Takes G.X G.E) (hr : Room 16 G.X.A) : CallD G (.ref (fa 26)) (mCall 4 [] m26) :=
  call_defE tk (ok26 T) hr (bd26 T) (fun _ => .nil)
theorem cd47 {G : Gx} {fa pa : Nat → Addr} {fd : Nat → FuncData} (T : Txt G.X.K G.X.mg G.ca fa pa fd) (tk : Takes G.X G.E) (hr : Room 13 G.X.A) : CallD G (.ref (fa 27)) (mCall 4 [] m27) :=
  call_defE tk (ok27 T) hr (bd27 T) (fun _ => .nil)
theorem cd48 {G : Gx} {fa pa : Nat → Addr} {fd : Nat → FuncData} (T : Txt G.X.K G.X.mg G.ca fa pa fd) (tk : Takes G.X G.E) (hr : Room 16 G.X.A) : CallD G (.ref (fa 22)) (mCall 2 [] m22) :=
  call_defE tk (ok22 T) hr (bd22 T) (fun _ => .nil)
theorem cd49 {G : Gx} {fa pa : Nat → Addr} {fd : Nat → FuncData} (T : Txt G.X.K G.X.mg G.ca fa pa fd) (tk : Takes G.X G.E) (hr : Room 13 G.X.A) : CallD G (.ref (fa 28)) (mCall 1 [] m28) :=
  call_defE tk (ok28 T) hr (bd28 T) (fun _ => .nil)
theorem cd50 {G : Gx} {fa pa : Nat → Addr} {fd : Nat → FuncData} (T : Txt G.X.K G.X.mg G.ca fa pa fd) (tk : Takes G.X G.E) (hr : Room 13 G.X.A) : CallD G (.ref (fa 29)) (mCall 1 [] m29) :=
  call_defE tk (ok29 T) hr (bd29 T) (fun _ => .nil)
theorem ok30 {P : Program} {w : World} {K : PySem.W.Frag} {mg : Str → Option Value} {base : Heap} {ca fa pa : Nat → Addr} {fd : Nat → FuncData} (T : Txt K mg ca fa pa fd) : FnOk P w K mg base (L2.CX P w) 19 (fa 30) (fd 30) ["_law_script"] (spM K ca 1 m30) :=
  fn_okD (N := N30) (k := 18) (b := b30) T.F30 sc30 fun cdv A outer s H E hr =>
  (rss_cons (rs_set (i := 1) sc30.nd rfl (by first | exact .inl rfl | exact .inr rfl) (re_call (cd43 T gx_tk (hr.mono (by decide))) rfl T.g17 T.F17.kp (ra_cons (re_var (pv 0)) ra_nil)))
  (rss_cons (rs_set (i := 2) sc30.nd rfl (by first | exact .inl rfl | exact .inr rfl) (re_call (cd28 T gx_tk (hr.mono (by decide))) rfl T.g19 T.F19.kp (ra_cons (re_var (pv 1)) ra_nil)))
  (rss_cons (rs_set (i := 3) sc30.nd rfl (by first | exact .inl rfl | exact .inr rfl) (re_call (cd44 T gx_tk (hr.mono (by decide))) rfl T.g20 T.F20.kp (ra_cons (re_var (pv 1)) (ra_cons (re_var (pv 2)) ra_nil))))
  (rss_cons (rs_set (i := 4) sc30.nd rfl (by first | exact .inl rfl | exact .inr rfl) (re_call (nw10 T gx_tk (hr.mono (by decide))) rfl T.mgc3 T.kc3 (ra_cons (re_var (pv 2)) ra_nil)))
  (rss_cons (rs_set (i := 5) sc30.nd rfl (by first | exact .inl rfl | exact .inr rfl) (re_call (nw10 T gx_tk (hr.mono (by decide))) rfl T.mgc3 T.kc3 (ra_cons (re_var (pv 3)) ra_nil)))
  (rss_cons (rs_set (i := 6) sc30.nd rfl (by first | exact .inl rfl | exact .inr rfl) (re_call (cd31 T gx_tk (hr.mono (by decide))) rfl T.g23 T.F23.kp (ra_cons (re_var (pv 2)) ra_nil)))
  (rss_cons (rs_set (i := 7) sc30.nd rfl (by first | exact .inl rfl | exact .inr rfl) (re_call (cd31 T gx_tk (hr.mono (by decide))) rfl T.g23 T.F23.kp (ra_cons (re_var (pv 3)) ra_nil)))
  (rss_cons (rs_if (rt_w (rw_or (rt_not (rt_val (tr8 T gx_tk (hr.mono (by decide))) (re_call (cd36 T gx_tk (hr.mono (by decide))) rfl T.g24 T.F24.kp (ra_cons (re_var (pv 4)) (ra_cons (re_var (pv 6)) ra_nil))))) (rw_or (rt_not (rt_val (tr8 T gx_tk (hr.mono (by decide))) (re_call (cd36 T gx_tk (hr.mono (by decide))) rfl T.g24 T.F24.kp (ra_cons (re_var (pv 5)) (ra_cons (re_var (pv 7)) ra_nil))))) (rw_or1 (rt_not (rt_val (tr8 T gx_tk (hr.mono (by decide))) (re_call (cd36 T gx_tk (hr.mono (by decide))) rfl T.g24 T.F24.kp (ra_cons (re_call0 (nw39 T gx_tk (hr.mono (by decide))) rfl T.mgc3 T.kc3) (ra_cons re_str ra_nil))))))))) (rss_one (rs_ret re_bl)) rss_nil)
  (rss_cons (rs_if (rt_w (rw_or (rt_cmp (tr8 T gx_tk (hr.mono (by decide))) (cd_ne hr) (re_cconE rfl T.mgc3 T.cr3 T.cv3_ALL (fun _ => .str _)) re_str) (rw_or1 (rt_not (rt_val (tr8 T gx_tk (hr.mono (by decide))) (re_call (cd45 T gx_tk (hr.mono (by decide))) rfl T.g25 T.F25.kp (ra_cons (re_var (pv 4)) (ra_cons (re_var (pv 6)) (ra_cons (re_bin (op14 T gx_tk (hr.mono (by decide))) (re_var (pv 2)) (re_var (pv 3))) ra_nil))))))))) (rss_one (rs_ret re_bl)) rss_nil)
  (rss_cons (rs_if (rt_w (rw_or (rt_not (rt_val (tr8 T gx_tk (hr.mono (by decide))) (re_call (cd46 T gx_tk (hr.mono (by decide))) rfl T.g26 T.F26.kp (ra_cons (re_var (pv 4)) (ra_cons (re_var (pv 5)) (ra_cons (re_var (pv 6)) (ra_cons (re_var (pv 7)) ra_nil))))))) (rw_or1 (rt_not (rt_val (tr8 T gx_tk (hr.mono (by decide))) (re_call (cd47 T gx_tk (hr.mono (by decide))) rfl T.g27 T.F27.kp (ra_cons (re_var (pv 4)) (ra_cons (re_var (pv 5)) (ra_cons (re_var (pv 6)) (ra_cons (re_var (pv 7)) ra_nil)))))))))) (rss_one (rs_ret re_bl)) rss_nil)
  (rss_cons (rs_set (i := 8) sc30.nd rfl (by first | exact .inl rfl | exact .inr rfl) (re_bin (op14 T gx_tk (hr.mono (by decide))) (re_var (pv 6)) (re_bin (op23 T gx_tk (hr.mono (by decide))) re_str (re_callTy kd_int rfl T.z_int (by decide +kernel) (ra_cons (re_cmp (eq25 T gx_tk (hr.mono (by decide))) (re_var (pv 6)) re_str) ra_nil)))))
  (rss_cons (rs_set (i := 9) sc30.nd rfl (by first | exact .inl rfl | exact .inr rfl) (re_l (rl_lst (ra_cons (re_var (pv 2)) (ra_cons (re_var (pv 3)) (ra_cons (re_var (pv 8)) (ra_cons (re_var (pv 7)) (ra_cons re_str (ra_cons re_str (ra_cons (re_bin (op14 T gx_tk (hr.mono (by decide))) (re_var (pv 8)) re_str) (ra_cons (re_bin (op14 T gx_tk (hr.mono (by decide))) re_str (re_var (pv 8))) ra_nil)))))))))))
  (rss_cons (rs_set (i := 9) sc30.nd rfl (by first | exact .inl rfl | exact .inr rfl) (re_bin (op14 T gx_tk (hr.mono (by decide))) (re_var (pv 9)) (re_l (rl_lst (ra_cons (re_call (cd48 T gx_tk (hr.mono (by decide))) rfl T.g22 T.F22.kp (ra_cons (re_var (pv 1)) (ra_cons (re_var (pv 2)) ra_nil))) (ra_cons (re_call (cd48 T gx_tk (hr.mono (by decide))) rfl T.g22 T.F22.kp (ra_cons (re_var (pv 1)) (ra_cons (re_var (pv 8)) ra_nil))) ra_nil))))))
  (rss_cons (rs_set (i := 9) sc30.nd rfl (by first | exact .inl rfl | exact .inr rfl) (re_bin (op14 T gx_tk (hr.mono (by decide))) (re_var (pv 9)) (re_l (rl_lst (ra_cons (re_call (cd48 T gx_tk (hr.mono (by decide))) rfl T.g22 T.F22.kp (ra_cons (re_var (pv 1)) (ra_cons re_str ra_nil))) (ra_cons (re_call (cd48 T gx_tk (hr.mono (by decide))) rfl T.g22 T.F22.kp (ra_cons (re_var (pv 1)) (ra_cons (re_ix xd_ix (re_var (pv 9)) re_int) ra_nil))) ra_nil))))))
  (rss_cons (rs_for gx_po rfl (ri_own gx_tk (hr.mono (by decide)) (ow11 T) (re_var (pv 9))) (rg_name (i := 10) (js := [10]) sc30.nd rfl (by first | exact .inl rfl | exact .inr rfl) (by decide)) (rss_one (rs_if (rt_w (rw_or (rt_not (rt_val (tr8 T gx_tk (hr.mono (by decide))) (re_call (cd49 T gx_tk (hr.mono (by decide))) rfl T.g28 T.F28.kp (ra_cons (re_var (pv 10)) ra_nil)))) (rw_or1 (rt_not (rt_val (tr8 T gx_tk (hr.mono (by decide))) (re_call (cd50 T gx_tk (hr.mono (by decide))) rfl T.g29 T.F29.kp (ra_cons (re_var (pv 10)) ra_nil))))))) (rss_one (rs_ret re_bl)) rss_nil)))
  (rss_one (rs_ret (re_and (tr8 T gx_tk (hr.mono (by decide))) (re_call (cd45 T gx_tk (hr.mono (by decide))) rfl T.g25 T.F25.kp (ra_cons (re_var (pv 5)) (ra_cons (re_var (pv 7)) (ra_cons (re_var (pv 3)) ra_nil)))) (re_and (tr8 T gx_tk (hr.mono (by decide))) (re_call (cd36 T gx_tk (hr.mono (by decide))) rfl T.g24 T.F24.kp (ra_cons (re_var (pv 4)) (ra_cons (re_var (pv 6)) ra_nil))) (re_one (re_call (cd36 T gx_tk (hr.mono (by decide))) rfl T.g24 T.F24.kp (ra_cons (re_var (pv 5)) (ra_cons (re_var (pv 7)) ra_nil)))))))))))))))))))))))
end W00

namespace W00
open PySem PySem.Spec PyProof.Rows L2 ClX ItX Mi
theorem all_mk {l : PySem.W.OpenLaw} {w : World} {K : PySem.W.Frag} {h : Heap} {mg : Str → Option Value} {fx : Addr} (X : K.In h) (G : h.Ns mainGlobals mg) (hfa : mg "law" = some (.ref fx)) {vC1 : Addr} {vC2 : Addr} {vF2 : Addr} {vC3 : Addr} {vF3 : Addr} {vF17 : Addr} {vF18 : Addr} {vF19 : Addr} {vF20 : Addr} {vF21 : Addr} {vF22 : Addr} {vF23 : Addr} {vF24 : Addr} {vF25 : Addr} {vF26 : Addr} {vF27 : Addr} {vF28 : Addr} {vC0 : Addr} {vF29 : Addr} {vF30 : Addr} {vF0 : Addr} {vF1 : Addr} {vu3_ALL : Value} {vF4 : Addr} {vF5 : Addr} {vF6 : Addr} {vF7 : Addr} {vF8 : Addr} {vF9 : Addr} {vF10 : Addr} {vF11 : Addr} {vF12 : Addr} {vF13 : Addr} {vF14 : Addr} {vF15 : Addr} {vP16 : Addr} {vF16 : Addr} {vrs16 : List Value} {voc0 : Value} {vod0 : Option Addr} {vkV0 : Value} {vdc0 : Value} {vpm0 : Value} {van0 : Option Addr} {vcd0 : Value} {vct0 : Value} {vsl0 : Array (Option Value)} {vx1_nm} {vx1_q} {vx1_N} {vx1_bs} {vx1_bm} {vx1_sn} {vx1_sub} {vx1_ab} {vx1_col} {vx1_dd} {vx1_k0} {vx1_k1} {vx1_k2} {vx1_k3} {vx1_k5} {voc1 : Value} {vod1 : Option Addr} {vkV1 : Value} {vdc1 : Value} {vpm1 : Value} {van1 : Option Addr} {vcd1 : Value} {vct1 : Value} {vsl1 : Array (Option Value)} {vx2_nm} {vx2_q} {vx2_N} {vx2_bs} {vx2_bm} {vx2_sn} {vx2_sub} {vx2_ab} {vx2_col} {vx2_dd} {vx2_k0} {vx2_k1} {vx2_k2} {vx2_k3} {vx2_k5} {voc2 : Value} {vod2 : Option Addr} {vkV2 : Value} {vdc2 : Value} {vpm2 : Value} {van2 : Option Addr} {vcd2 : Value} {vct2 : Value} {vsl2 : Array (Option Value)} {voc3 : Value} {vod3 : Option Addr} {vkV3 : Value} {vdc3 : Value} {vpm3 : Value} {van3 : Option Addr} {vcd3 : Value} {vct3 : Value} {vsl3 : Array (Option Value)} {voc4 : Value} {vod4 : Option Addr} {vT4 : Addr} {vkV4 : Value} {vdc4 : Value} {vpm4 : Value} {van4 : Option Addr} {vcd4 : Value} {vct4 : Value} {vsl4 : Array (Option Value)} {vto4 : Obj} {voc5 : Value} {vod5 : Option Addr} {vkV5 : Value} {vdc5 : Value} {vpm5 : Value} {van5 : Option Addr} {vcd5 : Value} {vct5 : Value} {vsl5 : Array (Option Value)} {voc6 : Value} {vod6 : Option Addr} {vkV6 : Value} {vdc6 : Value} {vpm6 : Value} {van6 : Option Addr} {vcd6 : Value} {vct6 : Value} {vsl6 : Array (Option Value)} {voc7 : Value} {vod7 : Option Addr} {vkV7 : Value} {vdc7 : Value} {vpm7 : Value} {van7 : Option Addr} {vcd7 : Value} {vct7 : Value} {vsl7 : Array (Option Value)} {voc8 : Value} {vod8 : Option Addr} {vkV8 : Value} {vdc8 : Value} {vpm8 : Value} {van8 : Option Addr} {vcd8 : Value} {vct8 : Value} {vsl8 : Array (Option Value)} {voc9 : Value} {vod9 : Option Addr} {vkV9 : Value} {vdc9 : Value} {vpm9 : Value} {van9 : Option Addr} {vcd9 : Value} {vct9 : Value} {vsl9 : Array (Option Value)} {voc10 : Value} {vod10 : Option Addr} {vkV10 : Value} {vdc10 : Value} {vpm10 : Value} {van10 : Option Addr} {vcd10 : Value} {vct10 : Value} {vsl10 : Array (Option Value)} {voc11 : Value} {vod11 : Option Addr} {vkV11 : Value} {vdc11 : Value} {vpm11 : Value} {van11 : Option Addr} {vcd11 : Value} {vct11 : Value} {vsl11 : Array (Option Value)} {voc12 : Value} {vod12 : Option Addr} {vkV12 : Value} {vdc12 : Value} {vpm12 : Value} {van12 : Option Addr} {vcd12 : Value} {vct12 : Value} {vsl12 : Array (Option Value)} {voc13 : Value} {vod13 : Option Addr} {vkV13 : Value} {vdc13 : Value} {vpm13 : Value} {van13 : Option Addr} {vcd13 : Value} {vct13 : Value} {vsl13 : Array (Option Value)} {voc14 : Value} {vod14 : Option Addr} {vkV14 : Value} {vdc14 : Value} {vpm14 : Value} {van14 : Option Addr} {vcd14 : Value} {vct14 : Value} {vsl14 : Array (Option Value)} {voc15 : Value} {vod15 : Option Addr} {vkV15 : Value} {vdc15 : Value} {vpm15 : Value} {van15 : Option Addr} {vcd15 : Value} {vct15 : Value} {vsl15 : Array (Option Value)} {voc16 : Value} {vod16 : Option Addr} {vkV16 : Value} {vdc16 : Value} {vpm16 : Value} {van16 : Option Addr} {vcd16 : Value} {vct16 : Value} {vsl16 : Array (Option Value)} {voc17 : Value} {vod17 : Option Addr} {vkV17 : Value} {vdc17 : Value} {vpm17 : Value} {van17 : Option Addr} {vcd17 : Value} {vct17 : Value} {vsl17 : Array (Option Value)} {voc18 : Value} {vod18 : Option Addr} {vkV18 : Value} {vdc18 : Value} {vpm18 : Value} {van18 : Option Addr} {vcd18 : Value} {vct18 : Value} {vsl18 : Array (Option Value)} {voc19 : Value} {vod19 : Option Addr} {vkV19 : Value} {vdc19 : Value} {vpm19 : Value} {van19 : Option Addr} {vcd19 : Value} {vct19 : Value} {vsl19 : Array (Option Value)} {voc20 : Value} {vod20 : Option Addr} {vkV20 : Value} {vdc20 : Value} {vpm20 : Value} {van20 : Option Addr} {vcd20 : Value} {vct20 : Value} {vsl20 : Array (Option Value)} {voc21 : Value} {vod21 : Option Addr} {vkV21 : Value} {vdc21 : Value} {vpm21 : Value} {van21 : Option Addr} {vcd21 : Value} {vct21 : Value} {vsl21 : Array (Option Value)} {voc22 : Value} {vod22 : Option Addr} {vkV22 : Value} {vdc22 : Value} {vpm22 : Value} {van22 : Option Addr} {vcd22 : Value} {vct22 : Value} {vsl22 : Array (Option Value)} {voc23 : Value} {vod23 : Option Addr} {vkV23 : Value} {vdc23 : Value} {vpm23 : Value} {van23 : Option Addr} {vcd23 : Value} {vct23 : Value} {vsl23 : Array (Option Value)} {voc24 : Value} {vod24 : Option Addr} {vkV24 : Value} {vdc24 : Value} {vpm24 : Value} {van24 : Option Addr} {vcd24 : Value} {vct24 : Value} {vsl24 : Array (Option Value)} {voc25 : Value} {vod25 : Option Addr} {vkV25 : Value} {vdc25 : Value} {vpm25 : Value} {van25 : Option Addr} {vcd25 : Value} {vct25 : Value} {vsl25 : Array (Option Value)} {voc26 : Value} {vod26 : Option Addr} {vkV26 : Value} {vdc26 : Value} {vpm26 : Value} {van26 : Option Addr} {vcd26 : Value} {vct26 : Value} {vsl26 : Array (Option Value)} {voc27 : Value} {vod27 : Option Addr} {vkV27 : Value} {vdc27 : Value} {vpm27 : Value} {van27 : Option Addr} {vcd27 : Value} {vct27 : Value} {vsl27 : Array (Option Value)} {voc28 : Value} {vod28 : Option Addr} {vkV28 : Value} {vdc28 : Value} {vpm28 : Value} {van28 : Option Addr} {vcd28 : Value} {vct28 : Value} {vsl28 : Array (Option Value)} {voc29 : Value} {vod29 : Option Addr} {vkV29 : Value} {vdc29 : Value} {vpm29 : Value} {van29 : Option Addr} {vcd29 : Value} {vct29 : Value} {vsl29 : Array (Option Value)} {voc30 : Value} {vod30 : Option Addr} {vkV30 : Value} {vdc30 : Value} {vpm30 : Value} {van30 : Option Addr} {vcd30 : Value} {vct30 : Value} {vsl30 : Array (Option Value)} {vti4 : List Value} {vtn4 : Nat}
    (mgc1a : PySem.W.nsIn K mainGlobals "BadMarks" = some (some (.ref vC1)))
    (mgc2a : PySem.W.nsIn K mainGlobals "BadText" = some (some (.ref vC2)))
    (g2a : PySem.W.nsIn K mainGlobals "is_mark" = some (some (.ref vF2)))
    (z_isinstancea : PySem.W.nsIn K mainGlobals "isinstance" = some none)
    (z_stra : PySem.W.nsIn K mainGlobals "str" = some none)
    (mgc3a : PySem.W.nsIn K mainGlobals "Marks" = some (some (.ref vC3)))
    (z_lena : PySem.W.nsIn K mainGlobals "len" = some none)
    (g3a : PySem.W.nsIn K mainGlobals "in_order" = some (some (.ref vF3)))
    (z_alla : PySem.W.nsIn K mainGlobals "all" = some none)
    (z_itera : PySem.W.nsIn K mainGlobals "iter" = some none)
    (g17a : PySem.W.nsIn K mainGlobals "_law_draws" = some (some (.ref vF17)))
    (z_inta : PySem.W.nsIn K mainGlobals "int" = some none)
    (z_absa : PySem.W.nsIn K mainGlobals "abs" = some none)
    (z_rangea : PySem.W.nsIn K mainGlobals "range" = some none)
    (g18a : PySem.W.nsIn K mainGlobals "_law_draw" = some (some (.ref vF18)))
    (g19a : PySem.W.nsIn K mainGlobals "_law_letters" = some (some (.ref vF19)))
    (g20a : PySem.W.nsIn K mainGlobals "_law_letters_beside" = some (some (.ref vF20)))
    (g21a : PySem.W.nsIn K mainGlobals "_law_char" = some (some (.ref vF21)))
    (g22a : PySem.W.nsIn K mainGlobals "_law_bent" = some (some (.ref vF22)))
    (g23a : PySem.W.nsIn K mainGlobals "_law_set" = some (some (.ref vF23)))
    (g24a : PySem.W.nsIn K mainGlobals "_law_is" = some (some (.ref vF24)))
    (g25a : PySem.W.nsIn K mainGlobals "_law_members" = some (some (.ref vF25)))
    (g26a : PySem.W.nsIn K mainGlobals "_law_results" = some (some (.ref vF26)))
    (g27a : PySem.W.nsIn K mainGlobals "_law_equal" = some (some (.ref vF27)))
    (g28a : PySem.W.nsIn K mainGlobals "_law_made_right" = some (some (.ref vF28)))
    (mgc0a : PySem.W.nsIn K mainGlobals "BureauError" = some (some (.ref vC0)))
    (z_ValueErrora : PySem.W.nsIn K mainGlobals "ValueError" = some none)
    (g29a : PySem.W.nsIn K mainGlobals "_law_read_right" = some (some (.ref vF29)))
    (g30a : PySem.W.nsIn K mainGlobals "law" = some (some (.ref vF30)))
    (fi0a : PySem.W.findIn K (.ref vC1) "__init__" = some (some (.ref vF0)))
    (fi1a : PySem.W.findIn K (.ref vC2) "__init__" = some (some (.ref vF1)))
    (cv3_ALLa : PySem.W.findCls K (.ref vC3) (.type "type") "ALL" = some (.val vu3_ALL))
    (fi4a : PySem.W.findIn K (.ref vC3) "__init__" = some (some (.ref vF4)))
    (fi5a : PySem.W.findIn K (.ref vC3) "text" = some (some (.ref vF5)))
    (fi6a : PySem.W.findIn K (.ref vC3) "__len__" = some (some (.ref vF6)))
    (fi7a : PySem.W.findIn K (.ref vC3) "__iter__" = some (some (.ref vF7)))
    (me7a : PySem.W.findIn K (.ref vC3) "__iter__" = some (some (.ref vF7)))
    (fi8a : PySem.W.findIn K (.ref vC3) "__contains__" = some (some (.ref vF8)))
    (me6a : PySem.W.findIn K (.ref vC3) "__len__" = some (some (.ref vF6)))
    (fi9a : PySem.W.findIn K (.ref vC3) "__and__" = some (some (.ref vF9)))
    (mk3a : PySem.W.findIn K (.ref vC3) "__init__" = some (some (.ref vF4)))
    (me8a : PySem.W.findIn K (.ref vC3) "__contains__" = some (some (.ref vF8)))
    (fi10a : PySem.W.findIn K (.ref vC3) "__or__" = some (some (.ref vF10)))
    (fi11a : PySem.W.findIn K (.ref vC3) "__sub__" = some (some (.ref vF11)))
    (fi12a : PySem.W.findIn K (.ref vC3) "__xor__" = some (some (.ref vF12)))
    (me11a : PySem.W.findIn K (.ref vC3) "__sub__" = some (some (.ref vF11)))
    (me10a : PySem.W.findIn K (.ref vC3) "__or__" = some (some (.ref vF10)))
    (me9a : PySem.W.findIn K (.ref vC3) "__and__" = some (some (.ref vF9)))
    (fi13a : PySem.W.findIn K (.ref vC3) "__invert__" = some (some (.ref vF13)))
    (fi14a : PySem.W.findIn K (.ref vC3) "__le__" = some (some (.ref vF14)))
    (fi15a : PySem.W.findIn K (.ref vC3) "__eq__" = some (some (.ref vF15)))
    (cm16a : PySem.W.findCls K (.ref vC3) (.type "type") "read" = some (.get (.builtin "classmethod.__get__") (.ref vP16) .none (.ref vC3)))
    (me15a : PySem.W.findIn K (.ref vC3) "__eq__" = some (some (.ref vF15)))
    (me5a : PySem.W.findIn K (.ref vC3) "text" = some (some (.ref vF5)))
    (me12a : PySem.W.findIn K (.ref vC3) "__xor__" = some (some (.ref vF12)))
    (me13a : PySem.W.findIn K (.ref vC3) "__invert__" = some (some (.ref vF13)))
    (me14a : PySem.W.findIn K (.ref vC3) "__le__" = some (some (.ref vF14)))
    (cm16r : PySem.W.recIn K vP16 "classmethod" = some (.ref vF16 :: vrs16))
    (F0l : K.lookup vF0 = some ⟨voc0, vod0, .func (PySem.W.fnOf "__init__" "BadMarks.__init__" (defArgs s0) (defBody s0) (defScope s0) .none vkV0 vdc0 vpm0 van0 vcd0 vct0), vsl0⟩)
    (ox1c : K.lookup vC1 = some (excClassObj vx1_nm vx1_q vC1 vx1_N vx1_bs vx1_bm true vx1_sn vx1_sub vx1_ab vx1_col vx1_dd vx1_k0 vx1_k1 vx1_k2 vx1_k3 vx1_k5 "ValueError.__new__"))
    (F1l : K.lookup vF1 = some ⟨voc1, vod1, .func (PySem.W.fnOf "__init__" "BadText.__init__" (defArgs s1) (defBody s1) (defScope s1) .none vkV1 vdc1 vpm1 van1 vcd1 vct1), vsl1⟩)
    (ox2c : K.lookup vC2 = some (excClassObj vx2_nm vx2_q vC2 vx2_N vx2_bs vx2_bm true vx2_sn vx2_sub vx2_ab vx2_col vx2_dd vx2_k0 vx2_k1 vx2_k2 vx2_k3 vx2_k5 "ValueError.__new__"))
    (F2l : K.lookup vF2 = some ⟨voc2, vod2, .func (PySem.W.fnOf "is_mark" "is_mark" (defArgs s2) (defBody s2) (defScope s2) .none vkV2 vdc2 vpm2 van2 vcd2 vct2), vsl2⟩)
    (F3l : K.lookup vF3 = some ⟨voc3, vod3, .func (PySem.W.fnOf "in_order" "in_order" (defArgs s3) (defBody s3) (defScope s3) .none vkV3 vdc3 vpm3 van3 vcd3 vct3), vsl3⟩)
    (F4l : K.lookup vF4 = some ⟨voc4, vod4, .func (PySem.W.fnOf "__init__" "Marks.__init__" (defArgs s4) (defBody s4) (defScope s4) (.ref vT4) vkV4 vdc4 vpm4 van4 vcd4 vct4), vsl4⟩)
    (F4t : K.lookup vT4 = some vto4)
    (F5l : K.lookup vF5 = some ⟨voc5, vod5, .func (PySem.W.fnOf "text" "Marks.text" (defArgs s5) (defBody s5) (defScope s5) .none vkV5 vdc5 vpm5 van5 vcd5 vct5), vsl5⟩)
    (F6l : K.lookup vF6 = some ⟨voc6, vod6, .func (PySem.W.fnOf "__len__" "Marks.__len__" (defArgs s6) (defBody s6) (defScope s6) .none vkV6 vdc6 vpm6 van6 vcd6 vct6), vsl6⟩)
    (F7l : K.lookup vF7 = some ⟨voc7, vod7, .func (PySem.W.fnOf "__iter__" "Marks.__iter__" (defArgs s7) (defBody s7) (defScope s7) .none vkV7 vdc7 vpm7 van7 vcd7 vct7), vsl7⟩)
    (F8l : K.lookup vF8 = some ⟨voc8, vod8, .func (PySem.W.fnOf "__contains__" "Marks.__contains__" (defArgs s8) (defBody s8) (defScope s8) .none vkV8 vdc8 vpm8 van8 vcd8 vct8), vsl8⟩)
    (F9l : K.lookup vF9 = some ⟨voc9, vod9, .func (PySem.W.fnOf "__and__" "Marks.__and__" (defArgs s9) (defBody s9) (defScope s9) .none vkV9 vdc9 vpm9 van9 vcd9 vct9), vsl9⟩)
    (F10l : K.lookup vF10 = some ⟨voc10, vod10, .func (PySem.W.fnOf "__or__" "Marks.__or__" (defArgs s10) (defBody s10) (defScope s10) .none vkV10 vdc10 vpm10 van10 vcd10 vct10), vsl10⟩)
    (F11l : K.lookup vF11 = some ⟨voc11, vod11, .func (PySem.W.fnOf "__sub__" "Marks.__sub__" (defArgs s11) (defBody s11) (defScope s11) .none vkV11 vdc11 vpm11 van11 vcd11 vct11), vsl11⟩)
    (F12l : K.lookup vF12 = some ⟨voc12, vod12, .func (PySem.W.fnOf "__xor__" "Marks.__xor__" (defArgs s12) (defBody s12) (defScope s12) .none vkV12 vdc12 vpm12 van12 vcd12 vct12), vsl12⟩)
    (F13l : K.lookup vF13 = some ⟨voc13, vod13, .func (PySem.W.fnOf "__invert__" "Marks.__invert__" (defArgs s13) (defBody s13) (defScope s13) .none vkV13 vdc13 vpm13 van13 vcd13 vct13), vsl13⟩)
    (F14l : K.lookup vF14 = some ⟨voc14, vod14, .func (PySem.W.fnOf "__le__" "Marks.__le__" (defArgs s14) (defBody s14) (defScope s14) .none vkV14 vdc14 vpm14 van14 vcd14 vct14), vsl14⟩)
    (F15l : K.lookup vF15 = some ⟨voc15, vod15, .func (PySem.W.fnOf "__eq__" "Marks.__eq__" (defArgs s15) (defBody s15) (defScope s15) .none vkV15 vdc15 vpm15 van15 vcd15 vct15), vsl15⟩)
    (F16l : K.lookup vF16 = some ⟨voc16, vod16, .func (PySem.W.fnOf "read" "Marks.read" (defArgs s16) (defBody s16) (defScope s16) .none vkV16 vdc16 vpm16 van16 vcd16 vct16), vsl16⟩)
    (F17l : K.lookup vF17 = some ⟨voc17, vod17, .func (PySem.W.fnOf "_law_draws" "_law_draws" (defArgs s17) (defBody s17) (defScope s17) .none vkV17 vdc17 vpm17 van17 vcd17 vct17), vsl17⟩)
    (F18l : K.lookup vF18 = some ⟨voc18, vod18, .func (PySem.W.fnOf "_law_draw" "_law_draw" (defArgs s18) (defBody s18) (defScope s18) .none vkV18 vdc18 vpm18 van18 vcd18 vct18), vsl18⟩)
    (F19l : K.lookup vF19 = some ⟨voc19, vod19, .func (PySem.W.fnOf "_law_letters" "_law_letters" (defArgs s19) (defBody s19) (defScope s19) .none vkV19 vdc19 vpm19 van19 vcd19 vct19), vsl19⟩)
    (F20l : K.lookup vF20 = some ⟨voc20, vod20, .func (PySem.W.fnOf "_law_letters_beside" "_law_letters_beside" (defArgs s20) (defBody s20) (defScope s20) .none vkV20 vdc20 vpm20 van20 vcd20 vct20), vsl20⟩)
    (F21l : K.lookup vF21 = some ⟨voc21, vod21, .func (PySem.W.fnOf "_law_char" "_law_char" (defArgs s21) (defBody s21) (defScope s21) .none vkV21 vdc21 vpm21 van21 vcd21 vct21), vsl21⟩)
    (F22l : K.lookup vF22 = some ⟨voc22, vod22, .func (PySem.W.fnOf "_law_bent" "_law_bent" (defArgs s22) (defBody s22) (defScope s22) .none vkV22 vdc22 vpm22 van22 vcd22 vct22), vsl22⟩)
    (F23l : K.lookup vF23 = some ⟨voc23, vod23, .func (PySem.W.fnOf "_law_set" "_law_set" (defArgs s23) (defBody s23) (defScope s23) .none vkV23 vdc23 vpm23 van23 vcd23 vct23), vsl23⟩)
    (F24l : K.lookup vF24 = some ⟨voc24, vod24, .func (PySem.W.fnOf "_law_is" "_law_is" (defArgs s24) (defBody s24) (defScope s24) .none vkV24 vdc24 vpm24 van24 vcd24 vct24), vsl24⟩)
    (F25l : K.lookup vF25 = some ⟨voc25, vod25, .func (PySem.W.fnOf "_law_members" "_law_members" (defArgs s25) (defBody s25) (defScope s25) .none vkV25 vdc25 vpm25 van25 vcd25 vct25), vsl25⟩)
    (F26l : K.lookup vF26 = some ⟨voc26, vod26, .func (PySem.W.fnOf "_law_results" "_law_results" (defArgs s26) (defBody s26) (defScope s26) .none vkV26 vdc26 vpm26 van26 vcd26 vct26), vsl26⟩)
    (F27l : K.lookup vF27 = some ⟨voc27, vod27, .func (PySem.W.fnOf "_law_equal" "_law_equal" (defArgs s27) (defBody s27) (defScope s27) .none vkV27 vdc27 vpm27 van27 vcd27 vct27), vsl27⟩)
    (F28l : K.lookup vF28 = some ⟨voc28, vod28, .func (PySem.W.fnOf "_law_made_right" "_law_made_right" (defArgs s28) (defBody s28) (defScope s28) .none vkV28 vdc28 vpm28 van28 vcd28 vct28), vsl28⟩)
    (F29l : K.lookup vF29 = some ⟨voc29, vod29, .func (PySem.W.fnOf "_law_read_right" "_law_read_right" (defArgs s29) (defBody s29) (defScope s29) .none vkV29 vdc29 vpm29 van29 vcd29 vct29), vsl29⟩)
    (F30l : K.lookup vF30 = some ⟨voc30, vod30, .func (PySem.W.fnOf "law" "law" (defArgs s30) (defBody s30) (defScope s30) .none vkV30 vdc30 vpm30 van30 vcd30 vct30), vsl30⟩)
    (F0c : PySem.W.codeIn K vcd0 "BadMarks.__init__" = true)
    (F0k : PySem.W.keepIn K (.ref vF0) = true)
    (ox1r : PySem.HandSPX.refsVE vx1_bm = true)
    (ox1s : PySem.W.findIn K (.ref vC1) "__setattr__" = some (some (.builtin "object.__setattr__")))
    (ox1e : PySem.W.subIn K (.ref vC1) (.type "BaseException") = some true)
    (ox1t : PySem.W.typeIn K (.ref vC1) = some (.type "type"))
    (ox1k : PySem.W.keepIn K (.ref vC1) = true)
    (na1_givena : PySem.W.findIn K (.ref vC1) "given" = some none)
    (F1c : PySem.W.codeIn K vcd1 "BadText.__init__" = true)
    (F1k : PySem.W.keepIn K (.ref vF1) = true)
    (ox2r : PySem.HandSPX.refsVE vx2_bm = true)
    (ox2s : PySem.W.findIn K (.ref vC2) "__setattr__" = some (some (.builtin "object.__setattr__")))
    (ox2e : PySem.W.subIn K (.ref vC2) (.type "BaseException") = some true)
    (ox2t : PySem.W.typeIn K (.ref vC2) = some (.type "type"))
    (ox2k : PySem.W.keepIn K (.ref vC2) = true)
    (na2_ata : PySem.W.findIn K (.ref vC2) "at" = some none)
    (F2c : PySem.W.codeIn K vcd2 "is_mark" = true)
    (F2k : PySem.W.keepIn K (.ref vF2) = true)
    (kit_non_stra : PySem.W.kitOne K (.type "NoneType") (.type "str") = some false)
    (kit_bl_stra : PySem.W.kitOne K (.type "bool") (.type "str") = some false)
    (kit_int_stra : PySem.W.kitOne K (.type "int") (.type "str") = some false)
    (kit_str_stra : PySem.W.kitOne K (.type "str") (.type "str") = some true)
    (kit_lst_stra : PySem.W.kitOne K (.type "list") (.type "str") = some false)
    (kit_tup_stra : PySem.W.kitOne K (.type "tuple") (.type "str") = some false)
    (kit_o3_stra : PySem.W.kitOne K (.ref vC3) (.type "str") = some false)
    (cl3pg : PySem.W.plainGet K vC3 Str.empty = true)
    (cl3hd : PySem.W.hasDictIn K vC3 = true)
    (cl3po : PySem.W.plainOver K vC3 = true)
    (cl3sa : PySem.W.findIn K (.ref vC3) "__setattr__" = some (some (.builtin "object.__setattr__")))
    (cl3ha : PySem.W.findIn K (.ref vC3) "__class__" = some (some (.builtin "object.__class__")))
    (cl3hn : PySem.W.specialIn K (.builtin "object.__class__") "__get__" = some (some (.builtin "getset_descriptor.__get__")))
    (cl3ht : PySem.W.takesIn K (.builtin "object.__class__") = some true)
    (cl3hm : PySem.W.mroIn K vC3 (.type "object") = some true)
    (cr3r : PySem.W.readsIn K vC3 (.type "type") = true)
    (cr3g : PySem.W.specialIn K (.ref vC3) "__getattribute__" = some (some (.builtin "type.__getattribute__")))
    (cv3_ALLr : RelV (V.str "abcdef") vu3_ALL)
    (F3c : PySem.W.codeIn K vcd3 "in_order" = true)
    (F3k : PySem.W.keepIn K (.ref vF3) = true)
    (F4c : PySem.W.codeIn K vcd4 "Marks.__init__" = true)
    (F4k : PySem.W.keepIn K (.ref vF4) = true)
    (F4u : vto4.data = .seq (vti4 : List Value).toArray vtn4)
    (F4v : Vals [(V.str "")] vti4)
    (ti0a : PySem.W.typeIn K (.ref vF0) = some (.type "function"))
    (na3_lettersa : PySem.W.findIn K (.ref vC3) "letters" = some none)
    (F5c : PySem.W.codeIn K vcd5 "Marks.text" = true)
    (F5k : PySem.W.keepIn K (.ref vF5) = true)
    (F6c : PySem.W.codeIn K vcd6 "Marks.__len__" = true)
    (F6k : PySem.W.keepIn K (.ref vF6) = true)
    (F7c : PySem.W.codeIn K vcd7 "Marks.__iter__" = true)
    (F7k : PySem.W.keepIn K (.ref vF7) = true)
    (me7f : PySem.W.isFn K (.ref vF7) = true)
    (me7k : PySem.W.keepIn K (.ref vF7) = true)
    (F8c : PySem.W.codeIn K vcd8 "Marks.__contains__" = true)
    (F8k : PySem.W.keepIn K (.ref vF8) = true)
    (me6f : PySem.W.isFn K (.ref vF6) = true)
    (me6k : PySem.W.keepIn K (.ref vF6) = true)
    (sf3a : PySem.W.selfFirst K vC3 = true)
    (nb3a : PySem.W.findIn K (.ref vC3) "__bool__" = some none)
    (F9c : PySem.W.codeIn K vcd9 "Marks.__and__" = true)
    (F9k : PySem.W.keepIn K (.ref vF9) = true)
    (mk3m : PySem.W.makesIn K vC3 = true)
    (mk3f : PySem.W.isFn K (.ref vF4) = true)
    (mk3k : PySem.W.keepIn K (.ref vC3) = true)
    (me8f : PySem.W.isFn K (.ref vF8) = true)
    (me8k : PySem.W.keepIn K (.ref vF8) = true)
    (kc3a : PySem.W.keepIn K (.ref vC3) = true)
    (F10c : PySem.W.codeIn K vcd10 "Marks.__or__" = true)
    (F10k : PySem.W.keepIn K (.ref vF10) = true)
    (F11c : PySem.W.codeIn K vcd11 "Marks.__sub__" = true)
    (F11k : PySem.W.keepIn K (.ref vF11) = true)
    (F12c : PySem.W.codeIn K vcd12 "Marks.__xor__" = true)
    (F12k : PySem.W.keepIn K (.ref vF12) = true)
    (me11f : PySem.W.isFn K (.ref vF11) = true)
    (me11k : PySem.W.keepIn K (.ref vF11) = true)
    (me10f : PySem.W.isFn K (.ref vF10) = true)
    (me10k : PySem.W.keepIn K (.ref vF10) = true)
    (me9f : PySem.W.isFn K (.ref vF9) = true)
    (me9k : PySem.W.keepIn K (.ref vF9) = true)
    (F13c : PySem.W.codeIn K vcd13 "Marks.__invert__" = true)
    (F13k : PySem.W.keepIn K (.ref vF13) = true)
    (F14c : PySem.W.codeIn K vcd14 "Marks.__le__" = true)
    (F14k : PySem.W.keepIn K (.ref vF14) = true)
    (F15c : PySem.W.codeIn K vcd15 "Marks.__eq__" = true)
    (F15k : PySem.W.keepIn K (.ref vF15) = true)
    (kit_non_c3a : PySem.W.kitOne K (.type "NoneType") (.ref vC3) = some false)
    (kit_bl_c3a : PySem.W.kitOne K (.type "bool") (.ref vC3) = some false)
    (kit_int_c3a : PySem.W.kitOne K (.type "int") (.ref vC3) = some false)
    (kit_str_c3a : PySem.W.kitOne K (.type "str") (.ref vC3) = some false)
    (kit_lst_c3a : PySem.W.kitOne K (.type "list") (.ref vC3) = some false)
    (kit_tup_c3a : PySem.W.kitOne K (.type "tuple") (.ref vC3) = some false)
    (kit_o3_c3a : PySem.W.kitOne K (.ref vC3) (.ref vC3) = some true)
    (cm16f : PySem.W.fnIn K vF16 = true)
    (F16c : PySem.W.codeIn K vcd16 "Marks.read" = true)
    (F16k : PySem.W.keepIn K (.ref vF16) = true)
    (ti1a : PySem.W.typeIn K (.ref vF1) = some (.type "function"))
    (F17c : PySem.W.codeIn K vcd17 "_law_draws" = true)
    (F17k : PySem.W.keepIn K (.ref vF17) = true)
    (F18c : PySem.W.codeIn K vcd18 "_law_draw" = true)
    (F18k : PySem.W.keepIn K (.ref vF18) = true)
    (me15f : PySem.W.isFn K (.ref vF15) = true)
    (me15k : PySem.W.keepIn K (.ref vF15) = true)
    (nf3_nona : PySem.W.notFirst K vC3 (.type "NoneType") = true)
    (nf3_bla : PySem.W.notFirst K vC3 (.type "bool") = true)
    (nf3_inta : PySem.W.notFirst K vC3 (.type "int") = true)
    (nf3_stra : PySem.W.notFirst K vC3 (.type "str") = true)
    (nf3_lsta : PySem.W.notFirst K vC3 (.type "list") = true)
    (nf3_tupa : PySem.W.notFirst K vC3 (.type "tuple") = true)
    (nf3_3oa : PySem.W.notFirst K vC3 (.ref vC3) = true)
    (F19c : PySem.W.codeIn K vcd19 "_law_letters" = true)
    (F19k : PySem.W.keepIn K (.ref vF19) = true)
    (F20c : PySem.W.codeIn K vcd20 "_law_letters_beside" = true)
    (F20k : PySem.W.keepIn K (.ref vF20) = true)
    (F21c : PySem.W.codeIn K vcd21 "_law_char" = true)
    (F21k : PySem.W.keepIn K (.ref vF21) = true)
    (F22c : PySem.W.codeIn K vcd22 "_law_bent" = true)
    (F22k : PySem.W.keepIn K (.ref vF22) = true)
    (F23c : PySem.W.codeIn K vcd23 "_law_set" = true)
    (F23k : PySem.W.keepIn K (.ref vF23) = true)
    (F24c : PySem.W.codeIn K vcd24 "_law_is" = true)
    (F24k : PySem.W.keepIn K (.ref vF24) = true)
    (me5f : PySem.W.isFn K (.ref vF5) = true)
    (me5k : PySem.W.keepIn K (.ref vF5) = true)
    (F25c : PySem.W.codeIn K vcd25 "_law_members" = true)
    (F25k : PySem.W.keepIn K (.ref vF25) = true)
    (F26c : PySem.W.codeIn K vcd26 "_law_results" = true)
    (F26k : PySem.W.keepIn K (.ref vF26) = true)
    (me12f : PySem.W.isFn K (.ref vF12) = true)
    (me12k : PySem.W.keepIn K (.ref vF12) = true)
    (me13f : PySem.W.isFn K (.ref vF13) = true)
    (me13k : PySem.W.keepIn K (.ref vF13) = true)
    (F27c : PySem.W.codeIn K vcd27 "_law_equal" = true)
    (F27k : PySem.W.keepIn K (.ref vF27) = true)
    (me14f : PySem.W.isFn K (.ref vF14) = true)
    (me14k : PySem.W.keepIn K (.ref vF14) = true)
    (F28c : PySem.W.codeIn K vcd28 "_law_made_right" = true)
    (F28k : PySem.W.keepIn K (.ref vF28) = true)
    (exm2_c0a : PySem.W.exmOne K (.ref vC2) (.ref vC0) = some true)
    (exm1_c0a : PySem.W.exmOne K (.ref vC1) (.ref vC0) = some true)
    (kitx2_c1a : PySem.W.kitOne K (.ref vC2) (.ref vC1) = some false)
    (xc2a : PySem.W.findIn K (.ref vC2) "__getattribute__" = some (some (.builtin "BaseException.__getattribute__")))
    (xc2b : PySem.W.findIn K (.ref vC2) "__getattr__" = some none)
    (xc2s : PySem.W.subIn K (.ref vC2) (.type "BaseException") = some true)
    (xc2d : PySem.W.hasDictIn K vC2 = true)
    (xc2h : PySem.W.findIn K (.ref vC2) "__class__" = some (some (.builtin "object.__class__")))
    (xc2n : PySem.W.specialIn K (.builtin "object.__class__") "__get__" = some (some (.builtin "getset_descriptor.__get__")))
    (xc2t : PySem.W.takesIn K (.builtin "object.__class__") = some true)
    (xc2m : PySem.W.mroIn K vC2 (.type "object") = some true)
    (xi2a : PySem.W.isClsIn K vC2 = true)
    (kitx1_c1a : PySem.W.kitOne K (.ref vC1) (.ref vC1) = some true)
    (xc1a : PySem.W.findIn K (.ref vC1) "__getattribute__" = some (some (.builtin "BaseException.__getattribute__")))
    (xc1b : PySem.W.findIn K (.ref vC1) "__getattr__" = some none)
    (xc1s : PySem.W.subIn K (.ref vC1) (.type "BaseException") = some true)
    (xc1d : PySem.W.hasDictIn K vC1 = true)
    (xc1h : PySem.W.findIn K (.ref vC1) "__class__" = some (some (.builtin "object.__class__")))
    (xc1n : PySem.W.specialIn K (.builtin "object.__class__") "__get__" = some (some (.builtin "getset_descriptor.__get__")))
    (xc1t : PySem.W.takesIn K (.builtin "object.__class__") = some true)
    (xc1m : PySem.W.mroIn K vC1 (.type "object") = some true)
    (xi1a : PySem.W.isClsIn K vC1 = true)
    (kitx2_c2a : PySem.W.kitOne K (.ref vC2) (.ref vC2) = some true)
    (kitx1_c2a : PySem.W.kitOne K (.ref vC1) (.ref vC2) = some false)
    (kitx2_ValueErrora : PySem.W.kitOne K (.ref vC2) (.type "ValueError") = some true)
    (kitx1_ValueErrora : PySem.W.kitOne K (.ref vC1) (.type "ValueError") = some true)
    (xf1a : PySem.W.findIn K (.ref vC1) "__getattribute__" = some (some (.builtin "BaseException.__getattribute__")))
    (xf1b : PySem.W.findIn K (.ref vC1) "__getattr__" = some none)
    (xf1s : PySem.W.subIn K (.ref vC1) (.type "BaseException") = some true)
    (xf1d : PySem.W.hasDictIn K vC1 = true)
    (F29c : PySem.W.codeIn K vcd29 "_law_read_right" = true)
    (F29k : PySem.W.keepIn K (.ref vF29) = true)
    (xf2a : PySem.W.findIn K (.ref vC2) "__getattribute__" = some (some (.builtin "BaseException.__getattribute__")))
    (xf2b : PySem.W.findIn K (.ref vC2) "__getattr__" = some none)
    (xf2s : PySem.W.subIn K (.ref vC2) (.type "BaseException") = some true)
    (xf2d : PySem.W.hasDictIn K vC2 = true)
    (F30c : PySem.W.codeIn K vcd30 "law" = true)
    (F30k : PySem.W.keepIn K (.ref vF30) = true)
    : ∃ fd : FuncData, (∀ (s : Shared) (v : Value), BindsTo s fd ⟨[v], []⟩ [("_law_script", v)]) ∧ ∀ base : Heap, K.In base → base.Ns mainGlobals mg → FnOk l.prog w K mg base (L2.CX l.prog w) 19 fx fd ["_law_script"] (spLaw m30 K) := by
  have e := hfa.symm.trans (PySem.W.mg_of X G g30a)
  have e2 : vF30 = fx := by cases e; rfl
  subst e2
  have T : Txt K mg (fun n => [vC0, vC1, vC2, vC3].getD n 0) (fun n => [vF0, vF1, vF2, vF3, vF4, vF5, vF6, vF7, vF8, vF9, vF10, vF11, vF12, vF13, vF14, vF15, vF16, vF17, vF18, vF19, vF20, vF21, vF22, vF23, vF24, vF25, vF26, vF27, vF28, vF29, vF30].getD n 0) (fun n => [0, 0, 0, 0, 0, 0, 0, 0, 0, 0, 0, 0, 0, 0, 0, 0, vP16, 0, 0, 0, 0, 0, 0, 0, 0, 0, 0, 0, 0, 0, 0].getD n 0) (fun n => [PySem.W.fnOf "__init__" "BadMarks.__init__" (defArgs s0) (defBody s0) (defScope s0) .none vkV0 vdc0 vpm0 van0 vcd0 vct0, PySem.W.fnOf "__init__" "BadText.__init__" (defArgs s1) (defBody s1) (defScope s1) .none vkV1 vdc1 vpm1 van1 vcd1 vct1, PySem.W.fnOf "is_mark" "is_mark" (defArgs s2) (defBody s2) (defScope s2) .none vkV2 vdc2 vpm2 van2 vcd2 vct2, PySem.W.fnOf "in_order" "in_order" (defArgs s3) (defBody s3) (defScope s3) .none vkV3 vdc3 vpm3 van3 vcd3 vct3, PySem.W.fnOf "__init__" "Marks.__init__" (defArgs s4) (defBody s4) (defScope s4) (.ref vT4) vkV4 vdc4 vpm4 van4 vcd4 vct4, PySem.W.fnOf "text" "Marks.text" (defArgs s5) (defBody s5) (defScope s5) .none vkV5 vdc5 vpm5 van5 vcd5 vct5, PySem.W.fnOf "__len__" "Marks.__len__" (defArgs s6) (defBody s6) (defScope s6) .none vkV6 vdc6 vpm6 van6 vcd6 vct6, PySem.W.fnOf "__iter__" "Marks.__iter__" (defArgs s7) (defBody s7) (defScope s7) .none vkV7 vdc7 vpm7 van7 vcd7 vct7, PySem.W.fnOf "__contains__" "Marks.__contains__" (defArgs s8) (defBody s8) (defScope s8) .none vkV8 vdc8 vpm8 van8 vcd8 vct8, PySem.W.fnOf "__and__" "Marks.__and__" (defArgs s9) (defBody s9) (defScope s9) .none vkV9 vdc9 vpm9 van9 vcd9 vct9, PySem.W.fnOf "__or__" "Marks.__or__" (defArgs s10) (defBody s10) (defScope s10) .none vkV10 vdc10 vpm10 van10 vcd10 vct10, PySem.W.fnOf "__sub__" "Marks.__sub__" (defArgs s11) (defBody s11) (defScope s11) .none vkV11 vdc11 vpm11 van11 vcd11 vct11, PySem.W.fnOf "__xor__" "Marks.__xor__" (defArgs s12) (defBody s12) (defScope s12) .none vkV12 vdc12 vpm12 van12 vcd12 vct12, PySem.W.fnOf "__invert__" "Marks.__invert__" (defArgs s13) (defBody s13) (defScope s13) .none vkV13 vdc13 vpm13 van13 vcd13 vct13, PySem.W.fnOf "__le__" "Marks.__le__" (defArgs s14) (defBody s14) (defScope s14) .none vkV14 vdc14 vpm14 van14 vcd14 vct14, PySem.W.fnOf "__eq__" "Marks.__eq__" (defArgs s15) (defBody s15) (defScope s15) .none vkV15 vdc15 vpm15 van15 vcd15 vct15, PySem.W.fnOf "read" "Marks.read" (defArgs s16) (defBody s16) (defScope s16) .none vkV16 vdc16 vpm16 van16 vcd16 vct16, PySem.W.fnOf "_law_draws" "_law_draws" (defArgs s17) (defBody s17) (defScope s17) .none vkV17 vdc17 vpm17 van17 vcd17 vct17, PySem.W.fnOf "_law_draw" "_law_draw" (defArgs s18) (defBody s18) (defScope s18) .none vkV18 vdc18 vpm18 van18 vcd18 vct18, PySem.W.fnOf "_law_letters" "_law_letters" (defArgs s19) (defBody s19) (defScope s19) .none vkV19 vdc19 vpm19 van19 vcd19 vct19, PySem.W.fnOf "_law_letters_beside" "_law_letters_beside" (defArgs s20) (defBody s20) (defScope s20) .none vkV20 vdc20 vpm20 van20 vcd20 vct20, PySem.W.fnOf "_law_char" "_law_char" (defArgs s21) (defBody s21) (defScope s21) .none vkV21 vdc21 vpm21 van21 vcd21 vct21, PySem.W.fnOf "_law_bent" "_law_bent" (defArgs s22) (defBody s22) (defScope s22) .none vkV22 vdc22 vpm22 van22 vcd22 vct22, PySem.W.fnOf "_law_set" "_law_set" (defArgs s23) (defBody s23) (defScope s23) .none vkV23 vdc23 vpm23 van23 vcd23 vct23, PySem.W.fnOf "_law_is" "_law_is" (defArgs s24) (defBody s24) (defScope s24) .none vkV24 vdc24 vpm24 van24 vcd24 vct24, PySem.W.fnOf "_law_members" "_law_members" (defArgs s25) (defBody s25) (defScope s25) .none vkV25 vdc25 vpm25 van25 vcd25 vct25, PySem.W.fnOf "_law_results" "_law_results" (defArgs s26) (defBody s26) (defScope s26) .none vkV26 vdc26 vpm26 van26 vcd26 vct26, PySem.W.fnOf "_law_equal" "_law_equal" (defArgs s27) (defBody s27) (defScope s27) .none vkV27 vdc27 vpm27 van27 vcd27 vct27, PySem.W.fnOf "_law_made_right" "_law_made_right" (defArgs s28) (defBody s28) (defScope s28) .none vkV28 vdc28 vpm28 van28 vcd28 vct28, PySem.W.fnOf "_law_read_right" "_law_read_right" (defArgs s29) (defBody s29) (defScope s29) .none vkV29 vdc29 vpm29 van29 vcd29 vct29, PySem.W.fnOf "law" "law" (defArgs s30) (defBody s30) (defScope s30) .none vkV30 vdc30 vpm30 van30 vcd30 vct30].getD n (PySem.W.fnOf "__init__" "BadMarks.__init__" (defArgs s0) (defBody s0) (defScope s0) .none vkV0 vdc0 vpm0 van0 vcd0 vct0)) := {
    mgc1 := PySem.W.mg_of X G mgc1a
    fi0 := fi0a
    F0 := fd_mk (st := s0) F0l F0c F0k
    ox1 := ⟨⟨_, _, _, _, _, _, _, _, _, _, _, _, _, _, _, ox1c, ox1r⟩, ox1s, ox1e, ox1t, ox1k⟩
    na1_given := na1_givena
    mgc2 := PySem.W.mg_of X G mgc2a
    fi1 := fi1a
    F1 := fd_mk (st := s1) F1l F1c F1k
    ox2 := ⟨⟨_, _, _, _, _, _, _, _, _, _, _, _, _, _, _, ox2c, ox2r⟩, ox2s, ox2e, ox2t, ox2k⟩
    na2_at := na2_ata
    g2 := PySem.W.mg_of X G g2a
    F2 := fd_mk (st := s2) F2l F2c F2k
    z_isinstance := PySem.W.mg_none_of X G z_isinstancea
    z_str := PySem.W.mg_none_of X G z_stra
    kit_non_str := kit_non_stra
    kit_bl_str := kit_bl_stra
    kit_int_str := kit_int_stra
    kit_str_str := kit_str_stra
    kit_lst_str := kit_lst_stra
    kit_tup_str := kit_tup_stra
    kit_o3_str := kit_o3_stra
    mgc3 := PySem.W.mg_of X G mgc3a
    cl3 := ⟨⟨cl3pg, cl3hd, cl3po, cl3sa⟩, cl3ha, cl3hn, cl3ht, cl3hm⟩
    z_len := PySem.W.mg_none_of X G z_lena
    cr3 := ⟨cr3r, cr3g⟩
    cv3_ALL := ⟨_, cv3_ALLa, cv3_ALLr⟩
    g3 := PySem.W.mg_of X G g3a
    F3 := fd_mk (st := s3) F3l F3c F3k
    fi4 := fi4a
    F4 := fd_mkD (st := s4) F4l F4c F4k F4t F4u (by intro z; cases z) F4v
    z_all := PySem.W.mg_none_of X G z_alla
    ti0 := ti0a
    na3_letters := na3_lettersa
    fi5 := fi5a
    F5 := fd_mk (st := s5) F5l F5c F5k
    fi6 := fi6a
    F6 := fd_mk (st := s6) F6l F6c F6k
    fi7 := fi7a
    F7 := fd_mk (st := s7) F7l F7c F7k
    me7 := ⟨me7a, me7f, me7k⟩
    z_iter := PySem.W.mg_none_of X G z_itera
    fi8 := fi8a
    F8 := fd_mk (st := s8) F8l F8c F8k
    me6 := ⟨me6a, me6f, me6k⟩
    sf3 := sf3a
    nb3 := nb3a
    fi9 := fi9a
    F9 := fd_mk (st := s9) F9l F9c F9k
    mk3 := ⟨mk3m, mk3a, mk3f, mk3k⟩
    me8 := ⟨me8a, me8f, me8k⟩
    kc3 := kc3a
    fi10 := fi10a
    F10 := fd_mk (st := s10) F10l F10c F10k
    fi11 := fi11a
    F11 := fd_mk (st := s11) F11l F11c F11k
    fi12 := fi12a
    F12 := fd_mk (st := s12) F12l F12c F12k
    me11 := ⟨me11a, me11f, me11k⟩
    me10 := ⟨me10a, me10f, me10k⟩
    me9 := ⟨me9a, me9f, me9k⟩
    fi13 := fi13a
    F13 := fd_mk (st := s13) F13l F13c F13k
    fi14 := fi14a
    F14 := fd_mk (st := s14) F14l F14c F14k
    fi15 := fi15a
    F15 := fd_mk (st := s15) F15l F15c F15k
    kit_non_c3 := kit_non_c3a
    kit_bl_c3 := kit_bl_c3a
    kit_int_c3 := kit_int_c3a
    kit_str_c3 := kit_str_c3a
    kit_lst_c3 := kit_lst_c3a
    kit_tup_c3 := kit_tup_c3a
    kit_o3_c3 := kit_o3_c3a
    cm16 := ⟨cm16a, ⟨_, cm16r⟩, cm16f⟩
    F16 := fd_mk (st := s16) F16l F16c F16k
    ti1 := ti1a
    g17 := PySem.W.mg_of X G g17a
    F17 := fd_mk (st := s17) F17l F17c F17k
    z_int := PySem.W.mg_none_of X G z_inta
    z_abs := PySem.W.mg_none_of X G z_absa
    z_range := PySem.W.mg_none_of X G z_rangea
    g18 := PySem.W.mg_of X G g18a
    F18 := fd_mk (st := s18) F18l F18c F18k
    me15 := ⟨me15a, me15f, me15k⟩
    nf3_non := nf3_nona
    nf3_bl := nf3_bla
    nf3_int := nf3_inta
    nf3_str := nf3_stra
    nf3_lst := nf3_lsta
    nf3_tup := nf3_tupa
    nf3_3o := nf3_3oa
    g19 := PySem.W.mg_of X G g19a
    F19 := fd_mk (st := s19) F19l F19c F19k
    g20 := PySem.W.mg_of X G g20a
    F20 := fd_mk (st := s20) F20l F20c F20k
    g21 := PySem.W.mg_of X G g21a
    F21 := fd_mk (st := s21) F21l F21c F21k
    g22 := PySem.W.mg_of X G g22a
    F22 := fd_mk (st := s22) F22l F22c F22k
    g23 := PySem.W.mg_of X G g23a
    F23 := fd_mk (st := s23) F23l F23c F23k
    g24 := PySem.W.mg_of X G g24a
    F24 := fd_mk (st := s24) F24l F24c F24k
    me5 := ⟨me5a, me5f, me5k⟩
    g25 := PySem.W.mg_of X G g25a
    F25 := fd_mk (st := s25) F25l F25c F25k
    g26 := PySem.W.mg_of X G g26a
    F26 := fd_mk (st := s26) F26l F26c F26k
    me12 := ⟨me12a, me12f, me12k⟩
    me13 := ⟨me13a, me13f, me13k⟩
    g27 := PySem.W.mg_of X G g27a
    F27 := fd_mk (st := s27) F27l F27c F27k
    me14 := ⟨me14a, me14f, me14k⟩
    g28 := PySem.W.mg_of X G g28a
    F28 := fd_mk (st := s28) F28l F28c F28k
    exm2_c0 := exm2_c0a
    exm1_c0 := exm1_c0a
    mgc0 := PySem.W.mg_of X G mgc0a
    kitx2_c1 := kitx2_c1a
    xc2 := ⟨xc2a, xc2b, xc2s, xc2d, xc2h, xc2n, xc2t, xc2m⟩
    xi2 := xi2a
    kitx1_c1 := kitx1_c1a
    xc1 := ⟨xc1a, xc1b, xc1s, xc1d, xc1h, xc1n, xc1t, xc1m⟩
    xi1 := xi1a
    kitx2_c2 := kitx2_c2a
    kitx1_c2 := kitx1_c2a
    z_ValueError := PySem.W.mg_none_of X G z_ValueErrora
    kitx2_ValueError := kitx2_ValueErrora
    kitx1_ValueError := kitx1_ValueErrora
    xf1 := ⟨xf1a, xf1b, xf1s, xf1d⟩
    g29 := PySem.W.mg_of X G g29a
    F29 := fd_mk (st := s29) F29l F29c F29k
    xf2 := ⟨xf2a, xf2b, xf2s, xf2d⟩
    g30 := PySem.W.mg_of X G g30a
    F30 := fd_mk (st := s30) F30l F30c F30k
  }
  exact ⟨PySem.W.fnOf "law" "law" (defArgs s30) (defBody s30) (defScope s30) .none vkV30 vdc30 vpm30 van30 vcd30 vct30, fun s v => .of_eq rfl, fun base _ _ => law_fn (ok30 T)⟩
end W00

/-! MiEv: the mirrors evaluated by simp: applied forms, lazily. -/
namespace Mi
open PySem PySem.Spec PyProof.Rows L2 ItX
/-! ### results -/
@[simp] theorem bind_ok {α β : Type} {a : α} {st : Sto} {f : α → M β} : (Res.ok a st).bind f = f a st := rfl
@[simp] theorem bind_exc {α β : Type} {c : Nat} {fs : Fs} {st : Sto} {f : α → M β} : (Res.exc c fs st : Res α).bind f = .exc c fs st := rfl
@[simp] theorem go_ok {α : Type} {a : α} {st : Sto} {env : En} {f : α → Sto → SRes} : (Res.ok a st).go env f = f a st := rfl
@[simp] theorem go_exc {α : Type} {c : Nat} {fs : Fs} {st : Sto} {env : En} {f : α → Sto → SRes} : (Res.exc c fs st : Res α).go env f = .exc env c fs st := rfl
/-! ### expressions -/
section
variable {env : En} {st : Sto} {i : Nat} {a b c : EM} {t ta tb : TM} {aa ab : AM} {f : D → D → M D} {g : D → M D} {d x y : D} {tr : D → M Bool}
def slotR (o : Option Slot) (st : Sto) : Res D := match o with
  | some (.sh d) => .ok d st
  | _ => .bad
@[simp] theorem slot_sh : slotR (some (.sh d)) st = .ok d st := rfl
@[simp] theorem eVar_app : eVar i env st = slotR env[i]? st := by
  unfold eVar slotR
  rfl
@[simp] theorem eC_app : eC d env st = .ok d st := rfl
def kOp (f : D → D → M D) (b : EM) (env : En) (x : D) : M D := fun s => (b env s).bind (f x)
@[simp] theorem kOp_app : kOp f b env x st = (b env st).bind (f x) := rfl
@[simp] theorem eOp_app : eOp f a b env st = (a env st).bind (kOp f b env) := rfl
@[simp] theorem eUn_app : eUn g a env st = (a env st).bind g := rfl
@[simp] theorem tVal_app : tVal tr a env st = (a env st).bind tr := rfl
def kNot (b : Bool) : M Bool := fun s => .ok (!b) s
@[simp] theorem kNot_app {b : Bool} : kNot b st = .ok (!b) st := rfl
@[simp] theorem tNotM_app : tNotM t env st = (t env st).bind kNot := rfl
def kAndT (tb : TM) (env : En) (x : Bool) : M Bool := fun s => if x = true then tb env s else .ok false s
@[simp] theorem kAndT_t : kAndT tb env true st = tb env st := rfl
@[simp] theorem kAndT_f : kAndT tb env false st = .ok false st := rfl
@[simp] theorem tAndM_app : tAndM ta tb env st = (ta env st).bind (kAndT tb env) := rfl
def kOrT (tb : TM) (env : En) (x : Bool) : M Bool := fun s => if x = true then .ok true s else tb env s
@[simp] theorem kOrT_t : kOrT tb env true st = .ok true st := rfl
@[simp] theorem kOrT_f : kOrT tb env false st = tb env st := rfl
@[simp] theorem tOrM_app : tOrM ta tb env st = (ta env st).bind (kOrT tb env) := rfl
@[simp] theorem tYesM_app : tYesM env st = .ok true st := rfl
def kAnd2 (b : EM) (env : En) (x : D) (k : Bool) : M D := fun s => if k = true then b env s else .ok x s
@[simp] theorem kAnd2_t : kAnd2 b env x true st = b env st := rfl
@[simp] theorem kAnd2_f : kAnd2 b env x false st = .ok x st := rfl
def kAnd (tr : D → M Bool) (b : EM) (env : En) (x : D) : M D := fun s => (tr x s).bind (kAnd2 b env x)
@[simp] theorem kAnd_app : kAnd tr b env x st = (tr x st).bind (kAnd2 b env x) := rfl
@[simp] theorem eAnd_app : eAnd tr a b env st = (a env st).bind (kAnd tr b env) := rfl
def kOr2 (b : EM) (env : En) (x : D) (k : Bool) : M D := fun s => if k = true then .ok x s else b env s
@[simp] theorem kOr2_t : kOr2 b env x true st = .ok x st := rfl
@[simp] theorem kOr2_f : kOr2 b env x false st = b env st := rfl
def kOr (tr : D → M Bool) (b : EM) (env : En) (x : D) : M D := fun s => (tr x s).bind (kOr2 b env x)
@[simp] theorem kOr_app : kOr tr b env x st = (tr x st).bind (kOr2 b env x) := rfl
@[simp] theorem eOr_app : eOr tr a b env st = (a env st).bind (kOr tr b env) := rfl
def kNotE2 (k : Bool) : M D := fun s => .ok (.bl (!k)) s
@[simp] theorem kNotE2_app {k : Bool} : kNotE2 k st = .ok (.bl (!k)) st := rfl
def kNotE (tr : D → M Bool) (x : D) : M D := fun s => (tr x s).bind kNotE2
@[simp] theorem kNotE_app : kNotE tr x st = (tr x st).bind kNotE2 := rfl
@[simp] theorem eNot_app : eNot tr a env st = (a env st).bind (kNotE tr) := rfl
def kIf (a b : EM) (env : En) (k : Bool) : M D := fun s => if k = true then a env s else b env s
@[simp] theorem kIf_t : kIf a b env true st = a env st := rfl
@[simp] theorem kIf_f : kIf a b env false st = b env st := rfl
@[simp] theorem eIf_app : eIf t a b env st = (t env st).bind (kIf a b env) := rfl
@[simp] theorem aNil_app : aNil env st = .ok [] st := rfl
def kCons2 (x : D) (xs : List D) : M (List D) := fun s => .ok (x :: xs) s
@[simp] theorem kCons2_app {xs : List D} : kCons2 x xs st = .ok (x :: xs) st := rfl
def kCons (aa : AM) (env : En) (x : D) : M (List D) := fun s => (aa env s).bind (kCons2 x)
@[simp] theorem kCons_app : kCons aa env x st = (aa env st).bind (kCons2 x) := rfl
@[simp] theorem aCons_app : aCons a aa env st = (a env st).bind (kCons aa env) := rfl
def kTup (xs : List D) : M D := fun s => if xs.length ≤ LIM then .ok (.tup xs) s else .bad
@[simp] theorem kTup_app {xs : List D} : kTup xs st = if xs.length ≤ LIM then .ok (.tup xs) st else .bad := rfl
@[simp] theorem eTup_app : eTup aa env st = (aa env st).bind kTup := rfl
def kLst (xs : List D) : M (List D) := fun s => if xs.length ≤ LIM then .ok xs s else .bad
@[simp] theorem kLst_app {xs : List D} : kLst xs st = if xs.length ≤ LIM then .ok xs st else .bad := rfl
@[simp] theorem lLst_app : lLst aa env st = (aa env st).bind kLst := rfl
def kL (xs : List D) : M D := fun s => .ok (.lst xs) s
@[simp] theorem kL_app {xs : List D} : kL xs st = .ok (.lst xs) st := rfl
@[simp] theorem eL_app : eL aa env st = (aa env st).bind kL := rfl
def kCel (ds : List D) : M D := fun s => .ok (.cell s.length) (s ++ [.lst ds])
@[simp] theorem kCel_app {ds : List D} : kCel ds st = .ok (.cell st.length) (st ++ [.lst ds]) := rfl
@[simp] theorem eCel_app : eCel aa env st = (aa env st).bind kCel := rfl
@[simp] theorem eCall_app {g : List D → M D} : eCall g aa env st = (aa env st).bind g := rfl
@[simp] theorem mCall_app {n : Nat} {dds ds : List D} {m : List D → M D} : mCall n dds m ds st = if ds.length + dds.length = n then m (ds ++ dds) st else .bad := rfl
def kNew (c : Nat) (fs : Fs) : M D := fun s => .ok (.ins c fs) s
@[simp] theorem kNew_app {c : Nat} {fs : Fs} : kNew c fs st = .ok (.ins c fs) st := rfl
@[simp] theorem mNew_app {c n : Nat} {dds ds : List D} {m : List D → M Fs} : mNew c n dds m ds st = if ds.length + dds.length = n then (m (ds ++ dds) st).bind (kNew c) else .bad := rfl
@[simp] theorem tag_beq {a b : Tag} : (a == b) = decide (a = b) := rfl
def isiR (f : Tag → Option Bool) (o : Option Tag) (s : Sto) : Res D := match o with
  | some t => (match f t with
    | some b => .ok (.bl b) s
    | none => .bad)
  | none => .bad
def kIsi (f : Tag → Option Bool) (x : D) : M D := fun s => isiR f (tagOf x s) s
@[simp] theorem kIsi_app {f : Tag → Option Bool} : kIsi f x st = isiR f (tagOf x st) st := rfl
@[simp] theorem eIsi_app {f : Tag → Option Bool} : eIsi f a env st = (a env st).bind (kIsi f) := rfl
def isiB (o : Option Bool) (s : Sto) : Res D := match o with
  | some b => .ok (.bl b) s
  | none => .bad
@[simp] theorem isiR_some {f : Tag → Option Bool} {t : Tag} : isiR f (some t) st = isiB (f t) st := rfl
@[simp] theorem isiB_some {b : Bool} : isiB (some b) st = .ok (.bl b) st := rfl
def fldR (o : Option D) (s : Sto) : Res D := match o with
  | some d => .ok d s
  | none => .bad
@[simp] theorem fldR_some : fldR (some d) st = .ok d st := rfl
def fldC (cs : List Nat) (f : Str) (o : Option (Nat × Fs)) (s : Sto) : Res D := match o with
  | some (c, fs) => if cs.contains c = true then fldR (fs.lookup f) s else .bad
  | none => .bad
@[simp] theorem fldC_some {cs : List Nat} {f : Str} {c : Nat} {fs : Fs} : fldC cs f (some (c, fs)) st = if cs.contains c = true then fldR (fs.lookup f) st else .bad := rfl
def kFld (cs : List Nat) (f : Str) (x : D) : M D := fun s => fldC cs f (clsOf x s) s
@[simp] theorem kFld_app {cs : List Nat} {f : Str} : kFld cs f x st = fldC cs f (clsOf x st) st := rfl
@[simp] theorem eFld_app {cs : List Nat} {f : Str} : eFld cs f a env st = (a env st).bind (kFld cs f) := rfl
@[simp] theorem clsOf_ins {c : Nat} {fs : Fs} : clsOf (.ins c fs) st = some (c, fs) := rfl
@[simp] theorem tagOf_ins {c : Nat} {fs : Fs} : tagOf (.ins c fs) st = some (.own c) := rfl
@[simp] theorem tagOf_str {z : Str} : tagOf (.str z) st = some .str := rfl
@[simp] theorem tagOf_int {z : Int} : tagOf (.int z) st = some .int := rfl
@[simp] theorem tagOf_bl {z : Bool} : tagOf (.bl z) st = some .bl := rfl
@[simp] theorem tagOf_lst {z : List D} : tagOf (.lst z) st = some .lst := rfl
@[simp] theorem tagOf_tup {z : List D} : tagOf (.tup z) st = some .tup := rfl
@[simp] theorem tagOf_non : tagOf .non st = some .non := rfl
@[simp] theorem seqOf_lst {z : List D} : seqOf (.lst z) st = some z := rfl
@[simp] theorem seqOf_fix {z : List D} : seqOf (.fix z) st = some z := rfl
def kBm (T : String) (f : D → List D → M D) (aa : AM) (env : En) (x : D) : M D := fun s => if tyD T x s = true then (aa env s).bind (f x) else .bad
@[simp] theorem kBm_app {T : String} {f : D → List D → M D} : kBm T f aa env x st = if tyD T x st = true then (aa env st).bind (f x) else .bad := rfl
@[simp] theorem eBm_app {T : String} {f : D → List D → M D} : eBm T f a aa env st = (a env st).bind (kBm T f aa env) := rfl
@[simp] theorem tyD_str {T : String} {z : Str} : tyD T (.str z) st = (T == "str") := rfl
def kMe (g : List D → M D) (x : D) (ds : List D) : M D := fun s => g (x :: ds) s
@[simp] theorem kMe_app {g : List D → M D} {ds : List D} : kMe g x ds st = g (x :: ds) st := rfl
def methR (tab : List (Nat × (List D → M D))) (name : Str) (x : D) (aa : AM) (env : En) (o : Option (Nat × Fs)) (s1 : Sto) : Res D := match o with
  | some (c, fs) => (match fs.lookup name, tab.lookup c with
    | none, some g => (aa env s1).bind (kMe g x)
    | _, _ => .bad)
  | none => .bad
def kMeth (tab : List (Nat × (List D → M D))) (name : Str) (aa : AM) (env : En) (x : D) : M D := fun s => methR tab name x aa env (clsOf x s) s
@[simp] theorem kMeth_app {tab : List (Nat × (List D → M D))} {name : Str} : kMeth tab name aa env x st = methR tab name x aa env (clsOf x st) st := rfl
@[simp] theorem eMeth_app {tab : List (Nat × (List D → M D))} {name : Str} : eMeth tab name a aa env st = (a env st).bind (kMeth tab name aa env) := rfl
theorem methR_some {tab : List (Nat × (List D → M D))} {name : Str} {c : Nat} {fs : Fs} {g : List D → M D} (h1 : fs.lookup name = none) (h2 : tab.lookup c = some g) : methR tab name x aa env (some (c, fs)) st = (aa env st).bind (kMe g x) := by
  unfold methR
  simp only [h1, h2]
def clsR (tab : Tab) (aa : AM) (env : En) (o : Option Slot) (st : Sto) : Res D := match o with
  | some (.sh (.cls c)) => (match tab.lookup c with
    | some g => (aa env st).bind g
    | none => .bad)
  | _ => .bad
@[simp] theorem eCls_app {tab : Tab} : eCls tab i aa env st = clsR tab aa env env[i]? st := by
  unfold eCls clsR
  rfl
theorem clsR_some {tab : Tab} {c : Nat} {g : List D → M D} (h : tab.lookup c = some g) : clsR tab aa env (some (.sh (.cls c))) st = (aa env st).bind g := by
  unfold clsR
  simp only [h]
def kCm (c n : Nat) (g : List D → M D) (ds : List D) : M D := fun s => if ds.length + 1 = n then g (.cls c :: ds) s else .bad
@[simp] theorem kCm_app {c n : Nat} {g : List D → M D} {ds : List D} : kCm c n g ds st = if ds.length + 1 = n then g (.cls c :: ds) st else .bad := rfl
@[simp] theorem eCm_app {c n : Nat} {g : List D → M D} : eCm c n g aa env st = (aa env st).bind (kCm c n g) := rfl
def kSl2 (f : D → Option Int → Option Int → M D) (hi : PM) (env : En) (x : D) (l : Option Int) : M D := fun s => (hi env s).bind (f x l)
@[simp] theorem kSl2_app {f : D → Option Int → Option Int → M D} {hi : PM} {l : Option Int} : kSl2 f hi env x l st = (hi env st).bind (f x l) := rfl
def kSl (f : D → Option Int → Option Int → M D) (lo hi : PM) (env : En) (x : D) : M D := fun s => (lo env s).bind (kSl2 f hi env x)
@[simp] theorem kSl_app {f : D → Option Int → Option Int → M D} {lo hi : PM} : kSl f lo hi env x st = (lo env st).bind (kSl2 f hi env x) := rfl
@[simp] theorem eSl_app {f : D → Option Int → Option Int → M D} {lo hi : PM} : eSl f a lo hi env st = (a env st).bind (kSl f lo hi env) := rfl
@[simp] theorem pNone_app : pNone env st = .ok none st := rfl
def pR (x : D) (s : Sto) : Res (Option Int) := match x with
  | .int i => .ok (some i) s
  | _ => .bad
@[simp] theorem pR_int {i : Int} : pR (.int i) st = .ok (some i) st := rfl
@[simp] theorem pSome_app : pSome a env st = (a env st).bind pR := rfl
def wR (o : Option (List D)) (s : Sto) : Res (List D) := match o with
  | some ds => .ok ds s
  | none => .bad
@[simp] theorem wR_some {ds : List D} : wR (some ds) st = .ok ds st := rfl
def kVal (x : D) : M (List D) := fun s => wR (walkD x) s
@[simp] theorem kVal_app : kVal x st = wR (walkD x) st := rfl
@[simp] theorem iVal_app : iVal a env st = (a env st).bind kVal := rfl
@[simp] theorem walkD_lst {z : List D} : walkD (.lst z) = some z := rfl
@[simp] theorem walkD_fix {z : List D} : walkD (.fix z) = some z := rfl
@[simp] theorem walkD_tup {z : List D} : walkD (.tup z) = some z := rfl
@[simp] theorem walkD_str {z : Str} : walkD (.str z) = some (signs z) := rfl
def kOwnI (tab : List (Nat × Str)) (x : D) : M (List D) := fun s => match x with
  | .ins c fs => (match tab.lookup c with
    | some f => (match fs.lookup f with
      | some d => (match d with
        | .lst ds => .ok ds s
        | .fix ds => .ok ds s
        | .str z => .ok (signs z) s
        | _ => .bad)
      | none => .bad)
    | none => .bad)
  | x => wR (walkD x) s
@[simp] theorem iOwn_app {tab : List (Nat × Str)} : iOwn tab a env st = (a env st).bind (kOwnI tab) := rfl
@[simp] theorem kOwnI_lst {tab : List (Nat × Str)} {z : List D} : kOwnI tab (.lst z) st = .ok z st := rfl
@[simp] theorem kOwnI_fix {tab : List (Nat × Str)} {z : List D} : kOwnI tab (.fix z) st = .ok z st := rfl
@[simp] theorem kOwnI_tup {tab : List (Nat × Str)} {z : List D} : kOwnI tab (.tup z) st = .ok z st := rfl
@[simp] theorem kOwnI_str {tab : List (Nat × Str)} {z : Str} : kOwnI tab (.str z) st = .ok (signs z) st := rfl
def kR1 (ds : List D) : M (List D) := fun s => match ds with
  | [.int n] => if -(2 ^ 62) ≤ n ∧ n < 2 ^ 62 then .ok (rngL 0 n.toNat) s else .bad
  | _ => .bad
@[simp] theorem kR1_app {n : Int} : kR1 [.int n] st = if -(2 ^ 62) ≤ n ∧ n < 2 ^ 62 then .ok (rngL 0 n.toNat) st else .bad := rfl
@[simp] theorem iR1_app : iR1 aa env st = (aa env st).bind kR1 := rfl
def kComp (tg : TgM) (tst : TM) (elt : EM) (env : En) (ds : List D) : M (List D) := fun s => compLoop tg tst elt env ds [] s
@[simp] theorem lComp_app {tg : TgM} {vs : List Nat} : lComp aa tg t a vs env st = (aa env st).bind (kComp tg t a (wipeE env vs)) := rfl
/-! ### statements -/
def SRes.next (r : SRes) (b : SM) : SRes := match r with
  | .nx env st => b env st
  | r => r
variable {ma mb : SM} {env2 : En}
@[simp] theorem next_nx : (SRes.nx env st).next ma = ma env st := rfl
@[simp] theorem next_rt : (SRes.rt d st).next ma = .rt d st := rfl
@[simp] theorem next_exc {c : Nat} {fs : Fs} : (SRes.exc env c fs st).next ma = .exc env c fs st := rfl
@[simp] theorem next_bk : (SRes.bk env st).next ma = .bk env st := rfl
@[simp] theorem next_ct : (SRes.ct env st).next ma = .ct env st := rfl
@[simp] theorem sSeq_app : sSeq ma mb env st = (ma env st).next mb := by
  unfold sSeq SRes.next
  cases ma env st <;> rfl
@[simp] theorem sNil_app : sNil env st = .nx env st := rfl
def kExpr (env : En) (_ : D) (s : Sto) : SRes := .nx env s
@[simp] theorem kExpr_app : kExpr env d st = .nx env st := rfl
@[simp] theorem sExpr_app : sExpr a env st = (a env st).go env (kExpr env) := rfl
@[simp] theorem sRet_app : sRet a env st = (a env st).go env SRes.rt := rfl
@[simp] theorem sRetN_app : sRetN env st = .rt .non st := rfl
def kSet (i : Nat) (env : En) (d : D) (s : Sto) : SRes := .nx (env.set i (.sh d)) s
@[simp] theorem kSet_app : kSet i env d st = .nx (env.set i (.sh d)) st := rfl
@[simp] theorem sSet_app : sSet i a env st = (a env st).go env (kSet i env) := rfl
def kSIf (ma mb : SM) (env : En) (k : Bool) (s : Sto) : SRes := if k = true then ma env s else mb env s
@[simp] theorem kSIf_t : kSIf ma mb env true st = ma env st := rfl
@[simp] theorem kSIf_f : kSIf ma mb env false st = mb env st := rfl
@[simp] theorem sIf_app : sIf t ma mb env st = (t env st).go env (kSIf ma mb env) := rfl
def kRaise (c n : Nat) (fs : List Str) (env : En) (ds : List D) (s : Sto) : SRes := if ds.length = n then .exc env c (xfs fs ds) s else .bad
@[simp] theorem kRaise_app {c n : Nat} {fs : List Str} {ds : List D} : kRaise c n fs env ds st = if ds.length = n then .exc env c (xfs fs ds) st else .bad := rfl
@[simp] theorem sRaise_app {c n : Nat} {fs : List Str} : sRaise c n fs aa env st = (aa env st).go env (kRaise c n fs env) := rfl
def kFor (tg : TgM) (ma : SM) (env : En) (ds : List D) (s : Sto) : SRes := forLoop tg ma ds env s
@[simp] theorem kFor_app {tg : TgM} {ds : List D} : kFor tg ma env ds st = forLoop tg ma ds env st := rfl
@[simp] theorem sFor_app {tg : TgM} : sFor aa tg ma env st = (aa env st).go env (kFor tg ma env) := rfl
def SRes.loop (r : SRes) (k : SM) : SRes := match r with
  | .nx env2 st2 => k env2 st2
  | .ct env2 st2 => k env2 st2
  | .bk env2 st2 => .nx env2 st2
  | r => r
@[simp] theorem loop_nx {k : SM} : (SRes.nx env st).loop k = k env st := rfl
@[simp] theorem loop_ct {k : SM} : (SRes.ct env st).loop k = k env st := rfl
@[simp] theorem loop_bk {k : SM} : (SRes.bk env st).loop k = .nx env st := rfl
@[simp] theorem loop_rt {k : SM} : (SRes.rt d st).loop k = .rt d st := rfl
@[simp] theorem loop_exc {k : SM} {c : Nat} {fs : Fs} : (SRes.exc env c fs st).loop k = .exc env c fs st := rfl
@[simp] theorem forLoop_nil {tg : TgM} : forLoop tg ma [] env st = .nx env st := rfl
def tgR (o : Option En) (ma k : SM) (st : Sto) : SRes := match o with
  | none => .bad
  | some e => (ma e st).loop k
@[simp] theorem tgR_some {k : SM} : tgR (some env) ma k st = (ma env st).loop k := rfl
theorem forLoop_cons {tg : TgM} {ds : List D} : forLoop tg ma (d :: ds) env st = tgR (tg d env) ma (forLoop tg ma ds) st := by
  rw [forLoop]
  unfold tgR SRes.loop
  cases tg d env with
  | none => rfl
  | some e => first | (dsimp only; done) | (dsimp only; cases ma e st <;> rfl)
@[simp] theorem gN_app : gN i d env = some (env.set i (.sh d)) := rfl
@[simp] theorem gT_tup {ts : List TgM} {ds : List D} : gT ts (.tup ds) env = gTs ts ds env := rfl
@[simp] theorem gTs_nil : gTs [] [] env = some env := rfl
@[simp] theorem gTs_cons {t : TgM} {ts : List TgM} {ds : List D} : gTs (t :: ts) (d :: ds) env = (t d env).bind (gTs ts ds) := rfl
/-! ### bodies -/
def SRes.out (r : SRes) : Res D := match r with
  | .nx _ st' => .ok .non st'
  | .rt d st' => .ok d st'
  | .exc _ c fs st' => .exc c fs st'
  | _ => .bad
@[simp] theorem out_nx : (SRes.nx env st).out = .ok .non st := rfl
@[simp] theorem out_rt : (SRes.rt d st).out = .ok d st := rfl
@[simp] theorem out_exc {c : Nat} {fs : Fs} : (SRes.exc env c fs st).out = .exc c fs st := rfl
theorem runBody_app {n : Nat} {ds : List D} : runBody n ma ds st = (ma (env0 n ds) st).out := rfl
def initR (c : Nat) (r : SRes) : Res Fs := match r with
  | .nx env st' => (match (env[0]? : Option Slot) with
    | some (.oI c' fs) => if c' = c then .ok fs st' else .bad
    | _ => .bad)
  | .exc _ c fs st' => .exc c fs st'
  | _ => .bad
@[simp] theorem initR_exc {c c2 : Nat} {fs : Fs} : initR c (.exc env c2 fs st) = .exc c2 fs st := rfl
@[simp] theorem initR_nx {c : Nat} {fs : Fs} {e : En} : initR c (.nx (.oI c fs :: e) st) = .ok fs st := by
  show (if c = c then Res.ok fs st else Res.bad) = _
  rw [if_pos rfl]
theorem runInit_app {c n : Nat} {ds : List D} : runInit c n ma ds st = initR c (ma (envI c n ds) st) := rfl
def sfR (cs : List Nat) (i : Nat) (f : Str) (env : En) (d : D) (o : Option Slot) (s : Sto) : SRes := match o with
  | some (.oI c fs) => if cs.contains c = true ∧ fs.length < 1000 then .nx (env.set i (.oI c (put f d fs))) s else .bad
  | _ => .bad
def kFldO (cs : List Nat) (i : Nat) (f : Str) (env : En) (d : D) (s : Sto) : SRes := sfR cs i f env d env[i]? s
@[simp] theorem kFldO_app {cs : List Nat} {f : Str} : kFldO cs i f env d st = sfR cs i f env d env[i]? st := rfl
@[simp] theorem sFldO_app {cs : List Nat} {f : Str} : sFldO cs i f a env st = (a env st).go env (kFldO cs i f env) := by
  unfold sFldO kFldO sfR
  rfl
@[simp] theorem sfR_some {cs : List Nat} {f : Str} {c : Nat} {fs : Fs} : sfR cs i f env d (some (.oI c fs)) st = if cs.contains c = true ∧ fs.length < 1000 then .nx (env.set i (.oI c (put f d fs))) st else .bad := rfl
def tryR (sub : Nat → Option Bool) (i : Option Nat) (ms : SM) (r : SRes) : SRes := match r with
  | .exc env' c fs st' => (match sub c with
    | some true => suiteEnd i (ms (match i with | some i => env'.set i (.ex c fs) | none => env') st')
    | some false => .exc env' c fs st'
    | none => .bad)
  | r => r
@[simp] theorem sTry_app {sub : Nat → Option Bool} {j : Option Nat} : sTry sub j ma mb env st = tryR sub j mb (ma env st) := rfl
@[simp] theorem tryR_nx {sub : Nat → Option Bool} {j : Option Nat} : tryR sub j mb (.nx env st) = .nx env st := rfl
@[simp] theorem tryR_rt {sub : Nat → Option Bool} {j : Option Nat} : tryR sub j mb (.rt d st) = .rt d st := rfl
theorem tryR_exc {sub : Nat → Option Bool} {c : Nat} {fs : Fs} (h : sub c = some true) : tryR sub (some i) mb (.exc env c fs st) = suiteEnd (some i) (mb (env.set i (.ex c fs)) st) := by
  unfold tryR
  simp only [h]
@[simp] theorem suiteEnd_rt {j : Option Nat} : suiteEnd j (.rt d st) = .rt d st := rfl
def xfR (cs : List Nat) (f : Str) (o : Option Slot) (st : Sto) : Res D := match o with
  | some (.ex c fs) => if cs.contains c = true then fldR (fs.lookup f) st else .bad
  | _ => .bad
@[simp] theorem eXf_app {cs : List Nat} {f : Str} : eXf cs i f env st = xfR cs f env[i]? st := by
  unfold eXf xfR
  cases env[i]? with
  | none => rfl
  | some s => cases s <;> rfl
@[simp] theorem xfR_ex {cs : List Nat} {f : Str} {c : Nat} {fs : Fs} : xfR cs f (some (.ex c fs)) st = if cs.contains c = true then fldR (fs.lookup f) st else .bad := rfl
def isxR (sub : Nat → Option Bool) (o : Option Slot) (st : Sto) : Res D := match o with
  | some (.ex c _) => isiB (sub c) st
  | _ => .bad
@[simp] theorem eIsX_app {sub : Nat → Option Bool} : eIsX sub i env st = isxR sub env[i]? st := by
  unfold eIsX isxR
  cases env[i]? with
  | none => rfl
  | some s => cases s <;> rfl
@[simp] theorem isxR_ex {sub : Nat → Option Bool} {c : Nat} {fs : Fs} : isxR sub (some (.ex c fs)) st = isiB (sub c) st := rfl
/-! ### operations on known shapes -/
variable {i1 j1 : Int} {z1 z2 : Str} {tab : Tab} {nf : Nat → Tag → Bool} {b1 b2 : Bool}
@[simp] theorem eqD_int : eqD tab nf (.int i1) (.int j1) st = .ok (.bl (decide (i1 = j1))) st := rfl
@[simp] theorem eqD_str : eqD tab nf (.str z1) (.str z2) st = .ok (.bl (decide (z1 = z2))) st := rfl
@[simp] theorem eqD_bl : eqD tab nf (.bl b1) (.bl b2) st = .ok (.bl (decide (b1 = b2))) st := rfl
@[simp] theorem eqS_int : eqS (.int i1) (.int j1) st = .ok (.bl (decide (i1 = j1))) st := rfl
@[simp] theorem eqS_str : eqS (.str z1) (.str z2) st = .ok (.bl (decide (z1 = z2))) st := rfl
@[simp] theorem neD_int : neD (.int i1) (.int j1) st = .ok (.bl (!decide (i1 = j1))) st := rfl
@[simp] theorem neD_str : neD (.str z1) (.str z2) st = .ok (.bl (!decide (z1 = z2))) st := rfl
@[simp] theorem neD_bl : neD (.bl b1) (.bl b2) st = .ok (.bl (!decide (b1 = b2))) st := rfl
@[simp] theorem truD_bl : truD tab (.bl b1) st = .ok b1 st := rfl
@[simp] theorem truS_bl : truS (.bl b1) st = .ok b1 st := rfl
@[simp] theorem truD_int : truD tab (.int i1) st = .ok (i1 != 0) st := rfl
@[simp] theorem truD_str : truD tab (.str z1) st = if z1.length ≤ LIM then .ok ((z1.length : Int) != 0) st else .bad := rfl
@[simp] theorem lenD_str : lenD tab [.str z1] st = if z1.length ≤ LIM then .ok (.int z1.length) st else .bad := rfl
@[simp] theorem inD_str {neg : Bool} : inD tab tr neg (.str z1) (.str z2) st = .ok (.bl (if neg then !subS z1 z2 else subS z1 z2)) st := rfl
@[simp] theorem opAdd_int : opAdd tab (.int i1) (.int j1) st = .ok (.int (i1 + j1)) st := rfl
@[simp] theorem opAdd_str : opAdd tab (.str z1) (.str z2) st = if z1.length + z2.length ≤ LIM then .ok (.str (z1 ++ z2)) st else .bad := rfl
@[simp] theorem opAdd_lst {p q : List D} : opAdd tab (.lst p) (.lst q) st = if p.length + q.length ≤ LIM then .ok (.lst (p ++ q)) st else .bad := rfl
@[simp] theorem opSub_int : opSub tab (.int i1) (.int j1) st = .ok (.int (i1 - j1)) st := rfl
@[simp] theorem opMul_int : opMul tab (.int i1) (.int j1) st = if (-(2 ^ 64) < i1 ∧ i1 < 2 ^ 64) ∨ (-(2 ^ 64) < j1 ∧ j1 < 2 ^ 64) then .ok (.int (i1 * j1)) st else .bad := rfl
@[simp] theorem opMul_str : opMul tab (.str z1) (.int j1) st = if 0 ≤ j1 ∧ j1 ≤ 1 then .ok (.str (if j1 = 1 then z1 else ⟨#[]⟩)) st else .bad := rfl
@[simp] theorem opMod_int : opMod (.int i1) (.int j1) st = if j1 ≠ 0 then .ok (.int (i1.fmod j1)) st else .bad := rfl
@[simp] theorem opFdv_int : opFdv (.int i1) (.int j1) st = if j1 ≠ 0 ∧ j1.natAbs < 1073741824 then .ok (.int (i1.fdiv j1)) st else .bad := rfl
@[simp] theorem opPow_int : opPow (.int i1) (.int j1) st = if 0 ≤ j1 ∧ j1 ≤ 1000000 ∧ i1.natAbs < 2 ^ 64 then .ok (.int (i1 ^ j1.toNat)) st else .bad := rfl
@[simp] theorem intD_int : intD [.int i1] st = .ok (.int i1) st := rfl
@[simp] theorem intD_bl : intD [.bl b1] st = .ok (.int (if b1 then 1 else 0)) st := rfl
@[simp] theorem absD_int : absD [.int i1] st = .ok (.int (if i1 < 0 then -i1 else i1)) st := rfl
@[simp] theorem cmpI_int {f : Int → Int → Bool} : cmpI f (.int i1) (.int j1) st = .ok (.bl (f i1 j1)) st := rfl
@[simp] theorem isD_bl {neg : Bool} : isD neg (.bl b1) (.bl b2) st = .ok (.bl (if neg then !decide (b1 = b2) else decide (b1 = b2))) st := rfl
@[simp] theorem isD_intbl {neg : Bool} : isD neg (.int i1) (.bl b2) st = .ok (.bl neg) st := rfl
end
/-! ### lists compared -/
section
variable {tab : Tab} {nf : Nat → Tag → Bool} {st : Sto} {n : Nat} {ds es : List D} {a b : PyData}
theorem pdR {x y : D} (h1 : pdT x st = some a) (h2 : pdT y st = some b) (s1 : SeqAt.shaped a = true) (s2 : SeqAt.shaped b = true) (r : Res D) : (match pdT x st, pdT y st with
    | some a, some b => if SeqAt.shaped a = true ∧ SeqAt.shaped b = true then Res.ok (D.bl (PyData.eqv a b)) st else .bad
    | _, _ => r) = .ok (.bl (PyData.eqv a b)) st := by
  rw [h1, h2]
  dsimp only
  rw [if_pos ⟨s1, s2⟩]
theorem pdT_lst {as : List PyData} (h : D.pds ds = some as) : pdT (.lst ds) st = some (.list as) := by
  show (D.pds ds).map PyData.list = _
  rw [h]; rfl
theorem eqD_cell (h1 : pdT (.cell n) st = some a) (h2 : D.pds es = some bs) (s1 : SeqAt.shaped a = true) (s2 : SeqAt.shaped (.list bs) = true) : eqD tab nf (.cell n) (.lst es) st = .ok (.bl (PyData.eqv a (.list bs))) st :=
  pdR h1 (pdT_lst h2) s1 s2 _
theorem eqD_lst (h1 : D.pds ds = some as) (h2 : D.pds es = some bs) (s1 : SeqAt.shaped (.list as) = true) (s2 : SeqAt.shaped (.list bs) = true) : eqD tab nf (.lst ds) (.lst es) st = .ok (.bl (PyData.eqv (.list as) (.list bs))) st :=
  pdR (pdT_lst h1) (pdT_lst h2) s1 s2 _
theorem neD_lst (h1 : D.pds ds = some as) (h2 : D.pds es = some bs) (s1 : SeqAt.shaped (.list as) = true) (s2 : SeqAt.shaped (.list bs) = true) : neD (.lst ds) (.lst es) st = .ok (.bl (!PyData.eqv (.list as) (.list bs))) st := by
  have e1 : pdT (.lst ds) st = some (.list as) := pdT_lst h1
  have e2 : pdT (.lst es) st = some (.list bs) := pdT_lst h2
  show (match pdT (.lst ds) st, pdT (.lst es) st with
    | some a, some b => if SeqAt.shaped a = true ∧ SeqAt.shaped b = true then Res.ok (D.bl (!PyData.eqv a b)) st else .bad
    | _, _ => .bad) = _
  rw [e1, e2]
  dsimp only
  rw [if_pos ⟨s1, s2⟩]
end
theorem pds_int : ∀ ns : List Int, D.pds (ns.map D.int) = some (ns.map PyData.int)
  | [] => rfl
  | n :: ns => by
    rw [List.map_cons, D.pds, pds_int ns]
    rfl
theorem pds_S : ∀ l : List Nat, D.pds (l.map fun c => D.str ⟨#[c]⟩) = some (l.map fun c => PyData.str ⟨#[c]⟩)
  | [] => rfl
  | n :: ns => by
    rw [List.map_cons, D.pds, pds_S ns]
    rfl
theorem lay_S : ∀ l : List Nat, (∀ c ∈ l, c < 0x110000) → PyData.canLayAll0 (l.map fun c => PyData.str ⟨#[c]⟩) = true
  | [], _ => rfl
  | c :: r, h => by
    have h1 := h c (List.mem_cons_self ..)
    have h2 := lay_S r fun d hd => h d (List.mem_cons_of_mem _ hd)
    rw [List.map_cons, PyData.canLayAll0, h2, Bool.and_true]
    show Array.all #[c] _ = true
    simpa using h1
theorem dep_S : ∀ l : List Nat, PyData.depthAll (l.map fun c => PyData.str ⟨#[c]⟩) = 0
  | [] => rfl
  | _ :: r => by simp [PyData.depthAll, PyData.depth, dep_S r]
theorem shaped_S (l : List Nat) (h : ∀ c ∈ l, c < 0x110000) : SeqAt.shaped (.list (l.map fun c => PyData.str ⟨#[c]⟩)) = true := by
  simp [SeqAt.shaped, PyData.canLay0, PyData.depth, lay_S l h, dep_S]
theorem eqv_S : ∀ l m : List Nat, PyData.eqvAll (l.map fun c => PyData.str ⟨#[c]⟩) (m.map fun c => PyData.str ⟨#[c]⟩) = decide (l = m)
  | [], [] => by simp [PyData.eqvAll]
  | [], _ :: _ => by simp [PyData.eqvAll]
  | _ :: _, [] => by simp [PyData.eqvAll]
  | a :: r, b :: t => by
    have e : PyData.eqv (.str ⟨#[a]⟩) (.str ⟨#[b]⟩) = decide (a = b) := by
      show ((⟨#[a]⟩ : Str) == ⟨#[b]⟩) = _
      by_cases h : a = b
      · simp [h]
      · simp [h]
    simp only [List.map_cons, PyData.eqvAll, eqv_S r t, e]
    by_cases h : a = b <;> by_cases h' : r = t <;> simp [h, h']
/-! ### comprehensions that keep the cells -/
theorem comp_keep {tg : TgM} {tst : TM} {elt : EM} {env : En} {st : Sto} (p : D → Bool) (g : D → D) : ∀ (ds acc : List D), acc.length + ds.length ≤ LIM →
    (∀ d ∈ ds, ∃ env1, tg d env = some env1 ∧ tst env1 st = .ok (p d) st ∧ (p d = true → elt env1 st = .ok (g d) st)) → compLoop tg tst elt env ds acc st = .ok (acc ++ (ds.filter p).map g) st
  | [], acc, _, _ => by simp [compLoop]
  | d :: ds, acc, hl, h => by
    obtain ⟨env1, h1, h2, h3⟩ := h d (List.mem_cons_self ..)
    rw [List.length_cons] at hl
    rw [compLoop, h1]
    dsimp only
    rw [h2]
    dsimp only
    cases e : p d with
    | true =>
      rw [if_pos rfl, h3 e]
      dsimp only
      rw [if_pos (by omega), comp_keep p g ds (acc ++ [g d]) (by rw [List.length_append, List.length_singleton]; omega) fun d hd => h d (List.mem_cons_of_mem _ hd)]
      simp [e]
    | false =>
      rw [if_neg Bool.false_ne_true, comp_keep p g ds acc (by omega) fun d hd => h d (List.mem_cons_of_mem _ hd)]
      simp [e]
/-! ### strings as lists of code points -/
abbrev S (l : List Nat) : D := .str ⟨l.toArray⟩
theorem S_len (l : List Nat) : (Str.length ⟨l.toArray⟩) = l.length := by
  show (l.toArray).size = _
  simp
theorem subS_one (c : Nat) (l : List Nat) : subS ⟨#[c]⟩ ⟨l.toArray⟩ = decide (c ∈ l) := by
  unfold subS
  rw [PySem.StrLaws.found_one]
theorem signs_S (l : List Nat) : signs ⟨l.toArray⟩ = l.map fun c => S [c] := rfl
theorem strsOf_map : ∀ l : List Nat, strsOf (l.map fun c => S [c]) = some (l.map fun c => ⟨#[c]⟩)
  | [] => rfl
  | c :: l => by
    rw [List.map_cons, strsOf, strsOf_map l]
    rfl
end Mi

namespace W00
open PySem PySem.Spec PyProof.Rows L2 ClX ItX Mi
/-! ### signs -/
def ALL : List Nat := [97, 98, 99, 100, 101, 102]
theorem lit_all : Str.ofString "abcdef" = ⟨ALL.toArray⟩ := by decide +kernel
def REV : List Nat := [102, 101, 100, 99, 98, 97]
theorem lit_rev : Str.ofString "fedcba" = ⟨REV.toArray⟩ := by decide +kernel
theorem rev_le : REV.length ≤ LIM := by decide
theorem lit_dash : Str.ofString "-" = ⟨[45].toArray⟩ := by decide +kernel
theorem lit_nil : Str.ofString "" = ⟨[].toArray⟩ := by decide +kernel
theorem comp_signs {i : Nat} {tst : TM} {env : En} {st : Sto} (hi : i < env.length) (p : Nat → Bool) (l : List Nat) (hl : l.length ≤ LIM) (h : ∀ c ∈ l, tst (env.set i (.sh (S [c]))) st = .ok (p c) st) :
    kComp (gN i) tst (eVar i) env (l.map fun c => S [c]) st = .ok ((l.filter p).map fun c => S [c]) st := by
  show compLoop _ _ _ _ _ _ _ = _
  have e := comp_keep (tg := gN i) (tst := tst) (elt := eVar i) (env := env) (st := st) (fun d => match d with | .str z => (match z.cps.toList with | [c] => p c | _ => false) | _ => false) id (l.map fun c => S [c]) [] (by simpa using hl) (by
    intro d hd
    obtain ⟨c, hc, rfl⟩ := List.mem_map.mp hd
    refine ⟨_, rfl, h c hc, fun _ => ?_⟩
    simp [List.getElem?_set_self hi])
  rw [e, List.nil_append, List.map_id]
  rw [List.filter_map]
  rfl
theorem comp_map {i : Nat} {elt : EM} {env : En} {st : Sto} (g : Nat → D) (l : List Nat) (hl : l.length ≤ LIM) (h : ∀ c ∈ l, elt (env.set i (.sh (S [c]))) st = .ok (g c) st) :
    kComp (gN i) tYesM elt env (l.map fun c => S [c]) st = .ok (l.map g) st := by
  show compLoop _ _ _ _ _ _ _ = _
  have e := comp_keep (tg := gN i) (tst := tYesM) (elt := elt) (env := env) (st := st) (fun _ => true) (fun d => match d with | .str z => (match z.cps.toList with | [c] => g c | _ => .non) | _ => .non) (l.map fun c => S [c]) [] (by simpa using hl) (by
    intro d hd
    obtain ⟨c, hc, rfl⟩ := List.mem_map.mp hd
    exact ⟨_, rfl, rfl, fun _ => h c hc⟩)
  rw [e, List.nil_append, List.filter_eq_self.mpr (fun _ _ => rfl), List.map_map]
  rfl
theorem joinL_one : ∀ l : List Nat, TL.joinL [] (l.map fun c => [c]) = l
  | [] => rfl
  | [c] => rfl
  | c :: d :: r => by
    have := joinL_one (d :: r)
    simp only [List.map_cons] at this ⊢
    rw [TL.joinL, this]
    rfl
theorem join_one (l : List Nat) : PySem.Txt.join ⟨[].toArray⟩ (l.map fun c => (⟨#[c]⟩ : Str)) = ⟨l.toArray⟩ := by
  have e := SX.join_S [] (l.map fun c => [c])
  rw [joinL_one, List.map_map] at e
  exact e
theorem sum_one : ∀ l : List Nat, ((l.map fun c => (⟨#[c]⟩ : Str)).map (·.length)).sum = l.length
  | [] => rfl
  | c :: l => by
    rw [List.map_cons, List.map_cons, List.sum_cons, sum_one l, List.length_cons]
    show 1 + _ = _
    omega
theorem joinD_one {st : Sto} (l : List Nat) (hl : l.length ≤ LIM) : joinD (.str ⟨[].toArray⟩) [.lst (l.map fun c => S [c])] st = .ok (S l) st := by
  unfold joinD
  simp only [seqOf_lst, strsOf_map, join_one, sum_one]
  rw [if_pos]
  show _ + _ * 0 ≤ _
  simpa using hl
theorem blsOf_map (f : Nat → Bool) : ∀ l : List Nat, blsOf (l.map fun c => D.bl (f c)) = some (l.map f)
  | [] => rfl
  | c :: l => by
    rw [List.map_cons, blsOf, blsOf_map f l]
    rfl
theorem allD_map {st : Sto} (f : Nat → Bool) (l : List Nat) : allD true [.lst (l.map fun c => D.bl (f c))] st = .ok (.bl (l.all f)) st := by
  unfold allD
  simp only [seqOf_lst, blsOf_map]
  simp
/-! ### the module's functions -/
def isMark (l : List Nat) : Bool := match l with
  | [c] => decide (c ∈ ALL)
  | _ => false
def norm (l : List Nat) : List Nat := ALL.filter fun c => decide (c ∈ l)
theorem m2_eq {st : Sto} (l : List Nat) (hl : l.length ≤ LIM) : m2 [S l] st = .ok (.bl (isMark l)) st := by
  have hl' : l.length ≤ 16777216 := hl
  match l with
  | [] => simp [LIM, m2, runBody_app, b2, env0, S_len, isMark, List.lookup, lit_all]
  | [c] => simp [LIM, m2, runBody_app, b2, env0, S_len, isMark, List.lookup, lit_all, subS_one]
  | c :: d :: r =>
    have h1 : r.length + 1 + 1 ≤ 16777216 := hl
    have h2 : ¬ ((r.length : Int) + 1 + 1 = 1) := by omega
    simp [LIM, m2, runBody_app, b2, env0, S_len, isMark, List.lookup, lit_all, h1, h2]
theorem all_le : ALL.length ≤ LIM := by decide
theorem norm_le (l : List Nat) : (norm l).length ≤ 6 := List.length_filter_le _ _
theorem m3_eq {st : Sto} (l : List Nat) : m3 [S l] st = .ok (S (norm l)) st := by
  simp [m3, runBody_app, b3, env0, lit_all, lit_nil, signs_S, wipeE]
  rw [comp_signs (i := 1) (by simp) (fun c => decide (c ∈ l)) ALL all_le (fun c hc => by simp [subS_one])]
  simp
  rw [joinD_one]
  · simp
    rfl
  · have := norm_le l
    show (norm l).length ≤ 16777216
    omega
/-! ### Marks -/
def good (l : List Nat) : Bool := l.all fun c => decide (c ∈ ALL)
theorem mi4_eq {st : Sto} (l : List Nat) (hl : l.length ≤ LIM) : mi4 [S l] st = if good l = true then .ok [("letters", S (norm l))] st else .exc 1 [("given", S l)] st := by
  simp [mi4, runInit_app, b4, envI, env0, signs_S, wipeE]
  rw [comp_map (i := 2) (fun c => .bl (isMark [c])) l hl (fun c hc => by simp [m2_eq [c] (by simp [LIM])])]
  simp [allD_map]
  cases e : good l with
  | true =>
    have e2 : (l.all fun c => isMark [c]) = true := e
    simp [e2, m3_eq, put]
  | false =>
    have e2 : (l.all fun c => isMark [c]) = false := e
    simp [e2, xfs]
/-- the object of a set -/
abbrev mk (s : List Nat) : D := .ins 3 [("letters", S s)]
theorem new_ok {st : Sto} (l : List Nat) (hl : l.length ≤ LIM) (h : good l = true) : mNew 3 1 [] mi4 [S l] st = .ok (mk (norm l)) st := by
  simp [mi4_eq l hl, h]
theorem new_bad {st : Sto} (l : List Nat) (hl : l.length ≤ LIM) (h : good l = false) : mNew 3 1 [] mi4 [S l] st = .exc 1 [("given", S l)] st := by
  simp [mi4_eq l hl, h]
theorem m5_eq {st : Sto} (s : List Nat) (hl : s.length ≤ LIM) : m5 [mk s] st = .ok (S (if s = [] then [45] else s)) st := by
  have hl' : s.length ≤ 16777216 := hl
  cases s with
  | nil => simp [LIM, m5, runBody_app, b5, env0, S_len, lit_dash, List.lookup]
  | cons c r =>
    have h2 : (((r.length : Int) + 1) != 0) = true := by simp; omega
    have h3 : r.length + 1 ≤ 16777216 := hl
    simp [LIM, m5, runBody_app, b5, env0, S_len, lit_dash, List.lookup, h3, h2]
theorem m6_eq {st : Sto} (s : List Nat) (hl : s.length ≤ LIM) : m6 [mk s] st = .ok (.int s.length) st := by
  have hl' : s.length ≤ 16777216 := hl
  simp [LIM, m6, runBody_app, b6, env0, S_len, List.lookup, hl']
def hasM (s l : List Nat) : Bool := match l with
  | [c] => decide (c ∈ ALL) && decide (c ∈ s)
  | _ => false
theorem m8_eq {st : Sto} (s l : List Nat) (hl : l.length ≤ LIM) : m8 [mk s, S l] st = .ok (.bl (hasM s l)) st := by
  match l with
  | [] => simp [LIM, m8, runBody_app, b8, env0, hasM, m2_eq [] hl, isMark]
  | [c] =>
    by_cases h : c ∈ ALL <;> simp [LIM, m8, runBody_app, b8, env0, hasM, m2_eq [c] hl, isMark, h, List.lookup, subS_one]
  | c :: d :: r => simp [LIM, m8, runBody_app, b8, env0, hasM, m2_eq _ hl, isMark]
/-! sets -/
def st_ (p : Nat → Bool) : List Nat := ALL.filter p
theorem st_good (p : Nat → Bool) : good (st_ p) = true := by
  simp only [good, List.all_eq_true, decide_eq_true_eq]
  exact fun c h => (List.mem_filter.mp h).1
theorem st_len (p : Nat → Bool) : (st_ p).length ≤ 6 := List.length_filter_le _ _
theorem mem_st {p : Nat → Bool} {c : Nat} : c ∈ st_ p ↔ c ∈ ALL ∧ p c = true := List.mem_filter
theorem st_congr {p q : Nat → Bool} (h : ∀ c ∈ ALL, p c = q c) : st_ p = st_ q := List.filter_congr h
theorem norm_st (l : List Nat) : norm l = st_ fun c => decide (c ∈ l) := rfl
theorem norm_good (l : List Nat) : good (norm l) = true := st_good _
theorem good_filter (l : List Nat) (p : Nat → Bool) (h : good l = true) : good (l.filter p) = true := by
  simp only [good, List.all_eq_true, decide_eq_true_eq] at h ⊢
  exact fun c z => h c (List.mem_filter.mp z).1
theorem good_append (l m : List Nat) (h : good l = true) (k : good m = true) : good (l ++ m) = true := by
  simp only [good, List.all_eq_true, decide_eq_true_eq] at h k ⊢
  intro c z
  rcases List.mem_append.mp z with z | z
  · exact h c z
  · exact k c z
theorem kOwnI_mk {st : Sto} (s : List Nat) : kOwnI [(3, "letters")] (mk s) st = .ok (s.map fun c => S [c]) st := by
  simp [kOwnI, List.lookup, signs_S]
theorem m9_eq {st : Sto} (s t : List Nat) (hs : s.length ≤ 6) (hg : good s = true) : m9 [mk s, mk t] st = .ok (mk (norm (s.filter fun c => decide (c ∈ t)))) st := by
  have hl : s.length ≤ LIM := by simp only [LIM]; omega
  have hf : (s.filter fun c => decide (c ∈ t)).length ≤ LIM := by
    have := List.length_filter_le (fun c => decide (c ∈ t)) s
    simp only [LIM]; omega
  simp [m9, runBody_app, b9, env0, List.lookup, signs_S, wipeE, lit_nil]
  rw [comp_signs (i := 2) (by simp) (fun c => decide (c ∈ t)) s hl (fun c hc => by simp [subS_one, List.lookup])]
  simp
  rw [joinD_one _ hf]
  simp [mi4_eq _ hf, good_filter s _ hg]
theorem m10_eq {st : Sto} (s t : List Nat) (hs : s.length ≤ 6) (ht : t.length ≤ 6) (hg : good s = true) (kg : good t = true) : m10 [mk s, mk t] st = .ok (mk (norm (s ++ t))) st := by
  have hf : (s ++ t).length ≤ LIM := by simp only [LIM, List.length_append]; omega
  have hf' : s.length + t.length ≤ 16777216 := by omega
  have e : ((⟨s.toArray⟩ : Str) ++ (⟨t.toArray⟩ : Str)) = ⟨(s ++ t).toArray⟩ := by
    show (⟨s.toArray ++ t.toArray⟩ : Str) = _
    simp
  simp [LIM, m10, runBody_app, b10, env0, List.lookup, S_len, hf', e, mi4_eq _ hf, good_append s t hg kg]
theorem m11_eq {st : Sto} (s t : List Nat) (hs : s.length ≤ 6) (hg : good s = true) : m11 [mk s, mk t] st = .ok (mk (norm (s.filter fun c => (!decide (c ∈ t))))) st := by
  have hl : s.length ≤ LIM := by simp only [LIM]; omega
  have hf : (s.filter fun c => (!decide (c ∈ t))).length ≤ LIM := by
    have := List.length_filter_le (fun c => (!decide (c ∈ t))) s
    simp only [LIM]; omega
  simp [m11, runBody_app, b11, env0, List.lookup, signs_S, wipeE, lit_nil]
  rw [comp_signs (i := 2) (by simp) (fun c => (!decide (c ∈ t))) s hl (fun c hc => by simp [subS_one, List.lookup])]
  simp only [bind_ok, kL_app, kCons_app, aNil_app, kCons2_app]
  rw [joinD_one _ hf]
  simp [mi4_eq _ hf, good_filter s _ hg]
theorem m12_eq {st : Sto} (s t : List Nat) (hs : s.length ≤ 6) (ht : t.length ≤ 6) (hg : good s = true) (kg : good t = true) :
    m12 [mk s, mk t] st = .ok (mk (norm ((norm (s ++ t)).filter fun c => !decide (c ∈ norm (s.filter fun c => decide (c ∈ t)))))) st := by
  simp [m12, runBody_app, b12, env0, List.lookup, ownOp, opSub, m10_eq s t hs ht hg kg, m9_eq s t hs hg, m11_eq _ _ (norm_le _) (st_good _)]
theorem m13_eq {st : Sto} (s : List Nat) : m13 [mk s] st = .ok (mk (norm (ALL.filter fun c => !decide (c ∈ s)))) st := by
  have hf : (ALL.filter fun c => !decide (c ∈ s)).length ≤ LIM := by
    have := List.length_filter_le (fun c => !decide (c ∈ s)) ALL
    exact Nat.le_trans this all_le
  simp [m13, runBody_app, b13, env0, List.lookup, signs_S, wipeE, lit_nil, lit_all]
  rw [comp_signs (i := 1) (by simp) (fun c => !decide (c ∈ s)) ALL all_le (fun c hc => by simp [subS_one, List.lookup])]
  simp only [bind_ok, kL_app, kCons_app, aNil_app, kCons2_app]
  rw [joinD_one _ hf]
  simp [mi4_eq _ hf, good_filter ALL _ (by decide)]
theorem m14_eq {st : Sto} (s t : List Nat) (hs : s.length ≤ 6) : m14 [mk s, mk t] st = .ok (.bl (s.all fun c => decide (c ∈ t))) st := by
  have hl : s.length ≤ LIM := by simp only [LIM]; omega
  simp [m14, runBody_app, b14, env0, List.lookup, signs_S, wipeE]
  rw [comp_map (i := 2) (fun c => .bl (decide (c ∈ t))) s hl (fun c hc => by simp [subS_one, List.lookup])]
  simp [allD_map]
theorem str_eq (s t : List Nat) : ((⟨s.toArray⟩ : Str) = ⟨t.toArray⟩) ↔ s = t := by simp
theorem m15_mk {st : Sto} (s t : List Nat) : m15 [mk s, mk t] st = .ok (.bl (decide (s = t))) st := by
  simp [m15, runBody_app, b15, env0, List.lookup, str_eq]
theorem m15_str {st : Sto} (s t : List Nat) : m15 [mk s, S t] st = .ok (.bl false) st := by
  simp [m15, runBody_app, b15, env0, List.lookup]
theorem m15_lst {st : Sto} (s : List Nat) (t : List D) : m15 [mk s, .lst t] st = .ok (.bl false) st := by
  simp [m15, runBody_app, b15, env0, List.lookup]
theorem m15_int {st : Sto} (s : List Nat) (t : Int) : m15 [mk s, .int t] st = .ok (.bl false) st := by
  simp [m15, runBody_app, b15, env0, List.lookup]
theorem dash_eq (s : List Nat) : (if s = [] then [45] else s) = (if s.isEmpty then [45] else s) := by cases s <;> simp
theorem m16_eq {st : Sto} (l : List Nat) : m16 [.cls 3, S l] st = if l = (if norm l = [] then [45] else norm l) then .ok (mk (norm (norm l))) st else .exc 2 [("at", .int 0)] st := by
  have hn := norm_le l
  have hn' : (norm l).length ≤ 16777216 := by omega
  have hn2 : (norm l).length ≤ LIM := hn'
  have hnn : mi4 [S (norm l)] st = .ok [("letters", S (norm (norm l)))] st := by rw [mi4_eq _ hn2, if_pos (norm_good _)]
  cases e : norm l with
  | nil =>
    rw [e] at hnn
    by_cases h : l = [45]
    · have h4 : (⟨l.toArray⟩ : Str) = ⟨#[45]⟩ := by rw [h]
      rw [if_pos rfl, if_pos h]
      simp [m16, runBody_app, b16, env0, m3_eq, e, S_len, LIM, lit_dash, h4, List.lookup, clsR, hnn]
    · have h4 : ¬ ((⟨l.toArray⟩ : Str) = ⟨#[45]⟩) := fun z => h ((str_eq l [45]).mp z)
      rw [if_pos rfl, if_neg h]
      simp [m16, runBody_app, b16, env0, m3_eq, e, S_len, LIM, lit_dash, h4, List.lookup, clsR, xfs]
  | cons c r =>
    rw [e] at hnn hn
    have h2 : (((r.length : Int) + 1) != 0) = true := by simp; omega
    have h3 : r.length + 1 ≤ 16777216 := by rw [List.length_cons] at hn; omega
    rw [if_neg (by simp : ¬ (c :: r = []))]
    by_cases h : l = c :: r
    · have h4 : (⟨l.toArray⟩ : Str) = ⟨(c :: r).toArray⟩ := by rw [h]
      rw [if_pos h]
      simp [m16, runBody_app, b16, env0, m3_eq, e, S_len, LIM, lit_dash, h2, h3, List.lookup, clsR, hnn, h4]
    · have h4 : ¬ ((⟨l.toArray⟩ : Str) = ⟨(c :: r).toArray⟩) := fun z => h ((str_eq l _).mp z)
      rw [if_neg h]
      simp [m16, runBody_app, b16, env0, m3_eq, e, S_len, LIM, lit_dash, h2, h3, h4, List.lookup, clsR, xfs]
/-! ### the pool -/
def Pool (st : Sto) : Prop := ∃ ns : List Int, st = [.lst (ns.map D.int)] ∧ ns.length ≤ 5000
theorem pool_pd (ns : List Int) : pdT (.cell 0) [.lst (ns.map D.int)] = some (.list (ns.map .int)) := by
  show (D.pds (ns.map D.int)).map PyData.list = _
  rw [pds_int]; rfl
theorem pool_eq {nf : Nat → Tag → Bool} {tab : Tab} (ns : List Int) : eqD tab nf (.cell 0) (.lst []) [.lst (ns.map D.int)] = .ok (.bl ns.isEmpty) [.lst (ns.map D.int)] := by
  rw [eqD_cell (pool_pd ns) (bs := []) rfl (PySem.W.ke_shaped_ints ns) rfl]
  cases ns <;> rfl
theorem m18_eq {st : Sto} (k : Int) (hk : 0 < k) (h : Pool st) : ∃ r st', m18 [.cell 0, .int k] st = .ok (.int r) st' ∧ Pool st' ∧ 0 ≤ r ∧ r < k := by
  obtain ⟨ns, rfl, hl⟩ := h
  have hk' : k ≠ 0 := by omega
  cases ns with
  | nil =>
    refine ⟨0, _, ?_, ⟨[], rfl, by simp⟩, Int.le_refl _, hk⟩
    have e := pool_eq (nf := nfL [((3, .non), true), ((3, .bl), true), ((3, .int), true), ((3, .str), true), ((3, .lst), true), ((3, .tup), true), ((3, .own 3), true)]) (tab := [(3, m15)]) []
    simp at e
    simp [LIM, m18, runBody_app, b18, env0, e]
  | cons n ns =>
    refine ⟨n.fmod k, _, ?_, ⟨ns, rfl, ?_⟩, Int.fmod_nonneg_of_pos _ hk, Int.fmod_lt_of_pos _ hk⟩
    · have e := pool_eq (nf := nfL [((3, .non), true), ((3, .bl), true), ((3, .int), true), ((3, .str), true), ((3, .lst), true), ((3, .tup), true), ((3, .own 3), true)]) (tab := [(3, m15)]) (n :: ns)
      simp at e
      have hl2 : ns.length + 1 ≤ 16777216 := by rw [List.length_cons] at hl; omega
      simp [LIM, m18, runBody_app, b18, env0, e, tyD, seqOf, popD, hl2, ixN, hk']
    · rw [List.length_cons] at hl; omega
theorem ix_S {st : Sto} (l : List Nat) (hl : l.length ≤ LIM) (r : Int) (h0 : 0 ≤ r) (h1 : r < l.length) : ∃ c ∈ l, ixD (S l) (.int r) st = .ok (S [c]) st := by
  have h2 : r.toNat < l.length := by omega
  refine ⟨l[r.toNat], List.getElem_mem h2, ?_⟩
  have e : atI l r = some l[r.toNat] := by
    unfold atI ixN
    rw [if_pos h0, if_pos h1]
    exact List.getElem?_eq_getElem h2
  show (if Str.length ⟨l.toArray⟩ ≤ LIM then (match atI l r with
    | some c => Res.ok (D.str ⟨#[c]⟩) st
    | none => .bad) else .bad) = _
  rw [S_len, if_pos hl, e]
/-- the letter drawn -/
def elt19 : EM := eOp ixD (eC (.str "abcdef")) (eCall (mCall 2 [] m18) (aCons (eVar 0) (aCons (eC (.int 6)) aNil)))
theorem elt19_eq {st : Sto} {env : En} (he : env[0]? = some (.sh (.cell 0))) (h : Pool st) : ∃ c st', elt19 env st = .ok (S [c]) st' ∧ Pool st' ∧ c ∈ ALL := by
  obtain ⟨r, st1, e1, P1, h0, h1⟩ := m18_eq 6 (by decide) h
  obtain ⟨c, hc, e2⟩ := ix_S (st := st1) ALL all_le r h0 h1
  refine ⟨c, st1, ?_, P1, hc⟩
  simp [elt19, he, e1, e2, lit_all]
theorem comp_draw {env : En} (he : env[0]? = some (.sh (.cell 0))) : ∀ (ds : List D) (acc : List Nat) (st : Sto), Pool st → acc.length + ds.length ≤ LIM →
    ∃ l st', compLoop (gN 2) tYesM elt19 env ds (acc.map fun c => S [c]) st = .ok ((acc ++ l).map fun c => S [c]) st' ∧ Pool st' ∧ good l = true ∧ l.length = ds.length
  | [], acc, st, h, _ => ⟨[], st, by simp [compLoop], h, rfl, rfl⟩
  | d :: ds, acc, st, h, hl => by
    rw [List.length_cons] at hl
    obtain ⟨c, st1, e1, P1, hc⟩ := elt19_eq (env := env.set 2 (.sh d)) (by rw [List.getElem?_set_ne (by decide)]; exact he) h
    obtain ⟨l, st2, e2, P2, hg, hn⟩ := comp_draw he ds (acc ++ [c]) st1 P1 (by simp; omega)
    refine ⟨c :: l, st2, ?_, P2, ?_, by simp [hn]⟩
    · rw [compLoop]
      simp only [gN_app, tYesM_app, if_true, e1]
      rw [if_pos (by simp; omega)]
      rw [List.map_append] at e2
      simp only [List.map_cons, List.map_nil] at e2
      rw [e2]
      simp
    · simp only [good, List.all_eq_true, decide_eq_true_eq, List.mem_cons] at hg ⊢
      rintro x (rfl | hx)
      · exact hc
      · exact hg x hx
theorem m19_eq {st : Sto} (h : Pool st) : ∃ l st', m19 [.cell 0] st = .ok (S l) st' ∧ Pool st' ∧ good l = true ∧ l.length ≤ 38 := by
  obtain ⟨r, st1, e1, P1, a0, a1⟩ := m18_eq 9 (by decide) h
  obtain ⟨q, st2, e2, P2, b0, b1⟩ := m18_eq 8 (by decide) P1
  have c0 : 0 ≤ (2 + r).fmod 9 := Int.fmod_nonneg_of_pos _ (by decide)
  have c1 : (2 + r).fmod 9 < 9 := Int.fmod_lt_of_pos _ (by decide)
  have fin : ∀ n : Int, 0 ≤ n → n ≤ 38 → ∃ l st', ((sRet (eBm "str" joinD (eC (.str "")) (aCons (eL (lComp (iR1 (aCons (eVar 1) aNil)) (gN 2) tYesM elt19 [2])) aNil))) [.sh (.cell 0), .sh (.int n), .no] st2).out = .ok (S l) st' ∧ Pool st' ∧ good l = true ∧ l.length ≤ 38 := by
    intro n n0 n1
    obtain ⟨l, st3, e3, P3, hg, hn⟩ := comp_draw (env := [.sh (.cell 0), .sh (.int n), .no]) rfl (rngL 0 n.toNat) [] st2 P2 (by simp [rngL, LIM]; omega)
    have hl : l.length ≤ 38 := by rw [hn]; simp [rngL]; omega
    refine ⟨l, st3, ?_, P3, hg, hl⟩
    have k1 : -(2 ^ 62) ≤ n ∧ n < 2 ^ 62 := ⟨by omega, by omega⟩
    simp only [sRet_app, eBm_app, eC_app, bind_ok, kBm_app, tyD_str, aCons_app, eL_app, lComp_app, iR1_app, eVar_app, List.getElem?_cons_succ, List.getElem?_cons_zero, slot_sh, kCons_app, aNil_app, kCons2_app, kR1_app, if_pos k1, beq_self_eq_true, if_true, wipeE, List.set]
    have e4 : kComp (gN 2) tYesM elt19 [.sh (.cell 0), .sh (.int n), .no] (rngL 0 n.toNat) st2 = .ok (l.map fun c => S [c]) st3 := by
      show compLoop _ _ _ _ _ _ _ = _
      simpa using e3
    simp only [e4, bind_ok, kL_app, kCons_app, aNil_app, kCons2_app, lit_nil]
    rw [joinD_one l (by simp only [LIM]; omega)]
    rfl
  by_cases hq : q = 7
  · obtain ⟨l, st3, e3, P3, hg, hl⟩ := fin ((2 + r).fmod 9 + 30) (by omega) (by omega)
    refine ⟨l, st3, ?_, P3, hg, hl⟩
    rw [← e3]
    simp [m19, runBody_app, b19, elt19, env0, e1, e2, hq]
  · obtain ⟨l, st3, e3, P3, hg, hl⟩ := fin ((2 + r).fmod 9) (by omega) (by omega)
    refine ⟨l, st3, ?_, P3, hg, hl⟩
    rw [← e3]
    simp [m19, runBody_app, b19, elt19, env0, e1, e2, hq]
/-! ### strings made of others -/
theorem S_app {st : Sto} {tab : Tab} (s t : List Nat) (h : s.length + t.length ≤ LIM) : opAdd tab (S s) (S t) st = .ok (S (s ++ t)) st := by
  have e : ((⟨s.toArray⟩ : Str) ++ (⟨t.toArray⟩ : Str)) = ⟨(s ++ t).toArray⟩ := by
    show (⟨s.toArray ++ t.toArray⟩ : Str) = _
    simp
  rw [opAdd_str, S_len, S_len, if_pos h, e]
theorem sl_S {st : Sto} (l : List Nat) (hl : l.length ≤ LIM) (lo hi : Option Int) : ∃ m, slD (S l) lo hi st = .ok (S m) st ∧ (∀ c ∈ m, c ∈ l) ∧ m.length ≤ l.length := by
  refine ⟨(l.drop (HT.sIx l.length 0 lo)).take (HT.sIx l.length l.length hi - HT.sIx l.length 0 lo), ?_, ?_, ?_⟩
  · show (if Str.length ⟨l.toArray⟩ ≤ LIM then Res.ok (D.str (cutS ⟨l.toArray⟩ lo hi)) st else .bad) = _
    rw [S_len, if_pos hl]
    unfold cutS
    rw [S_len]
  · exact fun c h => List.mem_of_mem_drop (List.mem_of_mem_take h)
  · simp only [List.length_take, List.length_drop]; omega
theorem rev_S {st : Sto} (l : List Nat) (hl : l.length ≤ LIM) : ∃ m, revD (S l) st = .ok (S m) st ∧ (∀ c ∈ m, c ∈ l) ∧ m.length ≤ l.length := by
  have e : (Builtin.Str.strSliceIndices none none (-1) (Str.length ⟨l.toArray⟩)).length ≤ l.length := by
    rw [S_len]
    exact sliceIndicesBy_le none none (-1) (by decide) l.length
  have e2 : ((Builtin.Str.strSliceIndices none none (-1) (Str.length ⟨l.toArray⟩)).filterMap (fun k => (l.toArray)[k]?)).length ≤ l.length := Nat.le_trans (List.length_filterMap_le _ _) e
  refine ⟨_, ?_, ?_, e2⟩
  · show (if (revS ⟨l.toArray⟩).length ≤ LIM then Res.ok (D.str (revS ⟨l.toArray⟩)) st else .bad) = _
    unfold revS
    rw [S_len, if_pos (Nat.le_trans e2 hl)]
  · intro c h
    obtain ⟨k, _, hk⟩ := List.mem_filterMap.mp h
    have hk : l[k]? = some c := by simpa using hk
    exact List.mem_of_getElem? hk
def sub (m l : List Nat) : Prop := ∀ c ∈ m, c ∈ l
theorem good_sub {m l : List Nat} (h : ∀ c ∈ m, c ∈ l) (g : good l = true) : good m = true := by
  simp only [good, List.all_eq_true, decide_eq_true_eq] at g ⊢
  exact fun c hc => g c (h c hc)
theorem len_S {st : Sto} {tab : Tab} (l : List Nat) (hl : l.length ≤ LIM) : lenD tab [S l] st = .ok (.int l.length) st := by
  rw [lenD_str, S_len, if_pos hl]
theorem m20_eq {st : Sto} (l : List Nat) (hg : good l = true) (hl : l.length ≤ 38) (h : Pool st) : ∃ m st', m20 [.cell 0, S l] st = .ok (S m) st' ∧ Pool st' ∧ good m = true ∧ m.length ≤ 76 := by
  obtain ⟨r, st1, e1, P1, a0, a1⟩ := m18_eq 5 (by decide) h
  have hl' : l.length ≤ LIM := by simp only [LIM]; omega
  by_cases h1 : r = 1
  · obtain ⟨m, em, sm, lm⟩ := rev_S (st := st1) l hl'
    exact ⟨m, st1, by simp [m20, runBody_app, b20, env0, e1, h1, em], P1, good_sub sm hg, by omega⟩
  by_cases h2 : r = 2
  · obtain ⟨q, st2, e2, P2, b0, b1⟩ := m18_eq ((l.length : Int) + 1) (by omega) P1
    obtain ⟨m, em, sm, lm⟩ := sl_S (st := st2) l hl' (some q) none
    exact ⟨m, st2, by simp [m20, runBody_app, b20, env0, e1, h2, e2, em, len_S l hl'], P2, good_sub sm hg, by omega⟩
  by_cases h3 : r = 3
  · obtain ⟨m, st2, e2, P2, gm, lm⟩ := m19_eq P1
    exact ⟨l ++ m, st2, by simp [m20, runBody_app, b20, env0, e1, h3, e2, S_app l m (by simp only [LIM]; omega)], P2, good_append l m hg gm, by simp; omega⟩
  by_cases h4 : r = 4
  · have hf : (REV.filter fun c => !decide (c ∈ l)).length ≤ 6 := List.length_filter_le _ _
    refine ⟨REV.filter fun c => !decide (c ∈ l), st1, ?_, P1, good_filter _ _ (by decide), by omega⟩
    simp [m20, runBody_app, b20, env0, e1, h4, lit_rev, lit_nil, signs_S, wipeE]
    rw [comp_signs (i := 3) (by simp) (fun c => !decide (c ∈ l)) REV rev_le (fun c hc => by simp [subS_one])]
    simp only [bind_ok, kL_app, kCons_app, aNil_app, kCons2_app]
    rw [joinD_one _ (by simp only [LIM]; omega)]
    rfl
  · obtain ⟨m, st2, e2, P2, gm, lm⟩ := m19_eq P1
    exact ⟨m, st2, by simp [m20, runBody_app, b20, env0, e1, h1, h2, h3, h4, e2], P2, gm, by omega⟩
def CHARS : List Nat := ((Str.ofString " !\"#$&'()*+,-./0123456789:;<=>?@ABCDEFGHIJKLMNOPQRSTUVWXYZ[\\]^_`").cps ++ (Str.ofString "abcdefghijklmnopqrstuvwxyz{|}~\n").cps).toList
def tame (l : List Nat) : Prop := ∀ c ∈ l, c < 0x110000
theorem chars_tame : tame CHARS := by
  have : CHARS.all (fun c => decide (c < 0x110000)) = true := by decide +kernel
  intro c hc
  exact of_decide_eq_true (List.all_eq_true.mp this c hc)
theorem chars_len : CHARS.length = 95 := by decide +kernel
theorem m21_eq {st : Sto} (h : Pool st) : ∃ c st', m21 [.cell 0] st = .ok (S [c]) st' ∧ Pool st' ∧ c < 0x110000 := by
  obtain ⟨r, st1, e1, P1, a0, a1⟩ := m18_eq 95 (by decide) h
  obtain ⟨c, hc, e2⟩ := ix_S (st := st1) CHARS (by rw [chars_len]; decide) r a0 (by rw [chars_len]; exact a1)
  refine ⟨c, st1, ?_, P1, chars_tame c hc⟩
  have k1 : ((Str.ofString " !\"#$&'()*+,-./0123456789:;<=>?@ABCDEFGHIJKLMNOPQRSTUVWXYZ[\\]^_`").length + (Str.ofString "abcdefghijklmnopqrstuvwxyz{|}~\n").length ≤ LIM) := by decide +kernel
  have k2 : ((Str.ofString " !\"#$&'()*+,-./0123456789:;<=>?@ABCDEFGHIJKLMNOPQRSTUVWXYZ[\\]^_`") ++ (Str.ofString "abcdefghijklmnopqrstuvwxyz{|}~\n")) = (⟨CHARS.toArray⟩ : Str) := rfl
  simp [m21, runBody_app, b21, env0, k1, k2, e1, e2]
theorem tame_app {l m : List Nat} (h : tame l) (k : tame m) : tame (l ++ m) := fun c hc => by
  rcases List.mem_append.mp hc with z | z
  · exact h c z
  · exact k c z
theorem tame_sub {m l : List Nat} (h : ∀ c ∈ m, c ∈ l) (g : tame l) : tame m := fun c hc => g c (h c hc)
theorem good_tame {l : List Nat} (g : good l = true) : tame l := fun c hc => by
  simp only [good, List.all_eq_true, decide_eq_true_eq] at g
  have : ALL.all (fun c => decide (c < 0x110000)) = true := by decide +kernel
  exact of_decide_eq_true (List.all_eq_true.mp this c (g c hc))
theorem m22_eq {st : Sto} (l : List Nat) (hg : tame l) (hl : l.length ≤ 1000) (h : Pool st) : ∃ m st', m22 [.cell 0, S l] st = .ok (S m) st' ∧ Pool st' ∧ tame m ∧ m.length ≤ 4 * l.length + 1 := by
  obtain ⟨r, st1, e1, P1, a0, a1⟩ := m18_eq 6 (by decide) h
  have hl' : l.length ≤ LIM := by simp only [LIM]; omega
  obtain ⟨k, st2, e2, P2, b0, b1⟩ := m18_eq ((l.length : Int) + 1) (by omega) P1
  obtain ⟨c, st3, e3, P3, hc⟩ := m21_eq P2
  have tc : tame [c] := fun x hx => by simp at hx; rw [hx]; exact hc
  obtain ⟨x1, y1, z1, w1⟩ := sl_S (st := st3) l hl' (some k) (some (k + 1))
  obtain ⟨x2, y2, z2, w2⟩ := sl_S (st := st3) l hl' none (some k)
  obtain ⟨x3, y3, z3, w3⟩ := sl_S (st := st3) l hl' (some k) none
  obtain ⟨x4, y4, z4, w4⟩ := sl_S (st := st3) l hl' (some (k + 1)) none
  obtain ⟨x5, y5, z5, w5⟩ := sl_S (st := st3) l hl' (some (k + 1)) (some (k + 2))
  obtain ⟨x6, y6, z6, w6⟩ := sl_S (st := st3) l hl' (some (k + 2)) none
  obtain ⟨x7, y7, z7, w7⟩ := rev_S (st := st3) l hl'
  have t1 := tame_sub z1 hg
  have t2 := tame_sub z2 hg
  have t3 := tame_sub z3 hg
  have t4 := tame_sub z4 hg
  have t5 := tame_sub z5 hg
  have t6 := tame_sub z6 hg
  have t7 := tame_sub z7 hg
  have ap : ∀ {tab : Tab} (s t : List Nat), s.length ≤ 5000 → t.length ≤ 5000 → opAdd tab (S s) (S t) st3 = .ok (S (s ++ t)) st3 := fun s t h1 h2 => S_app s t (by simp only [LIM]; omega)
  by_cases h0 : r = 0
  · exact ⟨x2 ++ [c] ++ x3, st3, by simp [m22, runBody_app, b22, env0, e1, e2, e3, len_S l hl', y1, h0, y2, y3, ap x2 [c] (by omega) (by simp), ap (x2 ++ [c]) x3 (by simp; omega) (by omega)], P3, tame_app (tame_app t2 tc) t3, by simp; omega⟩
  by_cases h1 : r = 1
  · exact ⟨x2 ++ x4, st3, by simp [m22, runBody_app, b22, env0, e1, e2, e3, len_S l hl', y1, h1, y2, y4, ap x2 x4 (by omega) (by omega)], P3, tame_app t2 t4, by simp; omega⟩
  by_cases h2 : r = 2
  · exact ⟨x2 ++ x1 ++ x3, st3, by simp [m22, runBody_app, b22, env0, e1, e2, e3, len_S l hl', y1, h2, y2, y3, ap x2 x1 (by omega) (by omega), ap (x2 ++ x1) x3 (by simp; omega) (by omega)], P3, tame_app (tame_app t2 t1) t3, by simp; omega⟩
  by_cases h3 : r = 3
  · exact ⟨x2 ++ x5 ++ x1 ++ x6, st3, by simp [m22, runBody_app, b22, env0, e1, e2, e3, len_S l hl', y1, h3, y2, y5, y6, ap x2 x5 (by omega) (by omega), ap (x2 ++ x5) x1 (by simp; omega) (by omega), ap (x2 ++ (x5 ++ x1)) x6 (by simp; omega) (by omega)], P3, tame_app (tame_app (tame_app t2 t5) t1) t6, by simp; omega⟩
  by_cases h4 : r = 4
  · exact ⟨x7, st3, by simp [m22, runBody_app, b22, env0, e1, e2, e3, len_S l hl', y1, h4, y7], P3, t7, by omega⟩
  · exact ⟨x2 ++ [c] ++ x4, st3, by simp [m22, runBody_app, b22, env0, e1, e2, e3, len_S l hl', y1, h0, h1, h2, h3, h4, y2, y4, ap x2 [c] (by omega) (by simp), ap (x2 ++ [c]) x4 (by simp; omega) (by omega)], P3, tame_app (tame_app t2 tc) t4, by simp; omega⟩
/-! ### the law's own words -/
theorem m23_eq {st : Sto} (l : List Nat) : m23 [S l] st = .ok (S (norm l)) st := by
  simp [m23, runBody_app, b23, env0, lit_all, lit_nil, signs_S, wipeE]
  rw [comp_signs (i := 1) (by simp) (fun c => decide (c ∈ l)) ALL all_le (fun c hc => by simp [subS_one])]
  simp
  rw [joinD_one]
  · simp
    rfl
  · have := norm_le l
    show (norm l).length ≤ 16777216
    omega
theorem comp_id {i : Nat} {env : En} {st : Sto} (hi : i < env.length) (l : List Nat) (hl : l.length ≤ LIM) : kComp (gN i) tYesM (eVar i) env (l.map fun c => S [c]) st = .ok (l.map fun c => S [c]) st := by
  rw [comp_signs hi (fun _ => true) l hl (fun c hc => rfl), List.filter_eq_self.mpr (fun _ _ => rfl)]
theorem m24_eq {st : Sto} (s : List Nat) (hs : s.length ≤ 6) (hg : good s = true) : m24 [mk s, S s] st = .ok (.bl true) st := by
  have hl : s.length ≤ LIM := by simp only [LIM]; omega
  have hl' : s.length ≤ 16777216 := hl
  have ht := good_tame hg
  have ne := neD_lst (st := st) (pds_S s) (pds_S s) (shaped_S s ht) (shaped_S s ht)
  rw [show PyData.eqv (.list (s.map fun c => PyData.str ⟨#[c]⟩)) (.list (s.map fun c => PyData.str ⟨#[c]⟩)) = true from (eqv_S s s).trans (by simp)] at ne
  have tx : (Str.ofString "text" == Str.ofString "letters") = false := by decide +kernel
  have sc : (⟨#[]⟩ : Str) ++ (⟨#[45]⟩ : Str) = ⟨#[45]⟩ := rfl
  by_cases hz : s = []
  · subst hz
    simp [m24, runBody_app, b24, env0, List.lookup, ownLen, lenD, truD, seqOf, m6_eq [] hl, S_len, LIM, methR, m5_eq [] hl, kOwnI, signs_S, wipeE, lit_nil, lit_dash, tx, S_app, kComp, compLoop, sc]
    simp at ne
    simp [ne, runBody_app, b24, env0, List.lookup, ownLen, lenD, truD, seqOf, m6_eq [] hl, S_len, LIM]
  · have h2 : (((s.length : Int)) != 0) = true := by
      have : 0 < s.length := List.length_pos_iff.mpr hz
      simp; omega
    have h4 : (s.length : Int) < 9223372036854775808 := by omega
    have h5 : ¬ ((⟨s.toArray⟩ : Str) = ⟨#[]⟩) := fun z => hz ((str_eq s []).mp z)
    have h6 : m5 [mk s] st = .ok (S s) st := by rw [m5_eq s hl, if_neg hz]
    have h7 := S_app (st := st) (tab := []) s [] (by simpa using hl)
    rw [List.append_nil] at h7
    have hc := comp_id (i := 2) (env := [.sh (mk s), .sh (S s), .no]) (st := st) (by simp) s hl
    have ne' : neD (.lst (s.map fun c => S [c])) (.lst (s.map fun c => S [c])) st = .ok (.bl false) st := ne
    simp [m24, runBody_app, b24, env0, List.lookup, ownLen, lenD, truD, seqOf, m6_eq s hl, S_len, LIM, methR, h6, kOwnI, signs_S, wipeE, lit_nil, lit_dash, h2, hl', h4, h5, tx, h7, hc, ne']
theorem inM {st : Sto} {t : D → M Bool} (ht : ∀ b s, t (.bl b) s = .ok b s) (s l : List Nat) (hl : l.length ≤ LIM) : inD [(3, m8)] t false (S l) (mk s) st = .ok (.bl (hasM s l)) st := by
  show ((m8 [mk s, S l] st).bind fun r s => (t r s).bind fun b s2 => Res.ok (D.bl (if false then !b else b)) s2) = _
  rw [m8_eq s l hl, bind_ok, ht]
  rfl
theorem for_keep {i : Nat} {ma : SM} {st : Sto} : ∀ (ds : List D) (env : En), i < env.length → (∀ d ∈ ds, ma (env.set i (.sh d)) st = .nx (env.set i (.sh d)) st) → ∃ s, forLoop (gN i) ma ds env st = .nx (env.set i s) st
  | [], env, hi, _ => ⟨env[i], by simp⟩
  | d :: ds, env, hi, h => by
    obtain ⟨s, e⟩ := for_keep (i := i) (ma := ma) (st := st) ds (env.set i (.sh d)) (by simpa using hi) fun x hx => by
      rw [List.set_set]
      exact h x (List.mem_cons_of_mem _ hx)
    refine ⟨s, ?_⟩
    rw [forLoop_cons, gN_app, tgR_some, h d (List.mem_cons_self ..), loop_nx, e, List.set_set]
theorem lit_A : Str.ofString "A" = ⟨[65].toArray⟩ := by decide +kernel
theorem lit_g : Str.ofString "g" = ⟨[103].toArray⟩ := by decide +kernel
theorem lit_aa : Str.ofString "aa" = ⟨[97, 97].toArray⟩ := by decide +kernel
theorem lit_ab : Str.ofString "ab" = ⟨[97, 98].toArray⟩ := by decide +kernel
theorem lit_fa : Str.ofString "fa" = ⟨[102, 97].toArray⟩ := by decide +kernel
theorem lit_an : Str.ofString "a\n" = ⟨[97, 10].toArray⟩ := by decide +kernel
theorem lit_am : Str.ofString "a-" = ⟨[97, 45].toArray⟩ := by decide +kernel
theorem m25_eq {st : Sto} (s l : List Nat) (hl : l.length ≤ 1000) : m25 [mk s, S s, S l] st = .ok (.bl true) st := by
  have tb : ∀ b s, truD [(3, m6)] (.bl b) s = .ok b s := fun b s => rfl
  have i0 : ∀ (m : List Nat) (st : Sto), m.length ≤ 2000 → inD [(3, m8)] (truD [(3, m6)]) false (S m) (mk s) st = .ok (.bl (hasM s m)) st := fun m st h => inM tb s m (by simp only [LIM]; omega)
  obtain ⟨q, e1⟩ := for_keep (i := 3) (ma := (sIf (tVal (truD [(3, m6)]) (eOp neD (eOp (inD [(3, m8)] (truD [(3, m6)]) false) (eVar 3) (eVar 0)) (eOp (inD [(3, m8)] (truD [(3, m6)]) false) (eVar 3) (eVar 1)))) (sRet (eC (.bl false))) sNil)) (st := st) (ALL.map fun c => S [c]) [.sh (mk s), .sh (S s), .sh (S l), .no, .no] (by simp) (fun d hd => by
    obtain ⟨c, hc, rfl⟩ := List.mem_map.mp hd
    simp [i0 [c] _ (by simp), hasM, hc, subS_one])
  have ap := S_app (st := st) (tab := []) l [97, 45] (by simp only [LIM, List.length_cons, List.length_nil]; omega)
  have h45 : ¬ (45 ∈ ALL) := by decide
  have h65 : ¬ (65 ∈ ALL) := by decide
  have h103 : ¬ (103 ∈ ALL) := by decide
  have ms : ∀ d ∈ [S [], S [45], S [65], S [103], S [97, 97], S [97, 98], S [102, 97], S [97, 10], S ALL, S (l ++ [97, 45])], ∃ m, d = S m ∧ hasM s m = false ∧ m.length ≤ 2000 := by
    have hz : hasM s (l ++ [97, 45]) = false := by
      cases l with
      | nil => rfl
      | cons a r => cases r <;> rfl
    simp only [List.forall_mem_cons, List.forall_mem_nil]
    exact ⟨⟨_, rfl, rfl, by decide⟩, ⟨_, rfl, by simp [hasM, h45], by decide⟩, ⟨_, rfl, by simp [hasM, h65], by decide⟩, ⟨_, rfl, by simp [hasM, h103], by decide⟩, ⟨_, rfl, rfl, by decide⟩, ⟨_, rfl, rfl, by decide⟩, ⟨_, rfl, rfl, by decide⟩, ⟨_, rfl, rfl, by decide⟩, ⟨_, rfl, rfl, by decide⟩, ⟨_, rfl, hz, by simp; omega⟩, fun _ h => by cases h⟩
  obtain ⟨q2, e2⟩ := for_keep (i := 4) (ma := (sIf (tVal (truD [(3, m6)]) (eOp (inD [(3, m8)] (truD [(3, m6)]) false) (eVar 4) (eVar 0))) (sRet (eC (.bl false))) sNil)) (st := st) [S [], S [45], S [65], S [103], S [97, 97], S [97, 98], S [102, 97], S [97, 10], S ALL, S (l ++ [97, 45])] [.sh (mk s), .sh (S s), .sh (S l), q, .no] (by simp) (fun d hd => by
    obtain ⟨m, rfl, hm, lm⟩ := ms d hd
    simp [i0 m _ lm, hm])
  simp [m25, runBody_app, b25, env0, lit_all, signs_S, e1, lit_nil, lit_dash, lit_A, lit_g, lit_aa, lit_ab, lit_fa, lit_an, lit_am, ap, LIM]
  simp at e2
  simp [e2]
/-! ### lists in order -/
def nrm (s : List Nat) : Prop := norm s = s
theorem mem_norm {l : List Nat} {c : Nat} : c ∈ norm l ↔ c ∈ ALL ∧ c ∈ l := by simp [norm]
theorem nrm_norm (l : List Nat) : nrm (norm l) := by
  show ALL.filter _ = _
  refine List.filter_congr fun c hc => ?_
  simp [mem_norm, hc]
theorem nrm_filter {s : List Nat} (h : nrm s) (f : Nat → Bool) : nrm (s.filter f) := by
  show norm (s.filter f) = s.filter f
  conv => rhs; rw [← h]
  show ALL.filter _ = (ALL.filter _).filter f
  rw [List.filter_filter]
  refine List.filter_congr fun c hc => ?_
  simp only [List.mem_filter]
  by_cases h1 : c ∈ s <;> cases h2 : f c <;> simp [h1, h2]
theorem nrm_nil : nrm [] := rfl
theorem nrm_all : nrm ALL := by
  show norm ALL = ALL
  decide
theorem nrm_ext {x y : List Nat} (hx : nrm x) (hy : nrm y) (h : ∀ c ∈ ALL, (c ∈ x ↔ c ∈ y)) : x = y := by
  rw [← hx, ← hy]
  show ALL.filter _ = ALL.filter _
  refine List.filter_congr fun c hc => ?_
  simp only [h c hc]
theorem nrm_good {s : List Nat} (h : nrm s) : good s = true := by rw [← h]; exact norm_good _
theorem nrm_le {s : List Nat} (h : nrm s) : s.length ≤ 6 := by rw [← h]; exact norm_le _
theorem own_mk {st : Sto} {g : List D → M D} (s t : List Nat) : ownOp [(3, g)] (mk s) (mk t) st = g [mk s, mk t] st := rfl
theorem sub_mk {st : Sto} {g : List D → M D} (s t : List Nat) : opSub [(3, g)] (mk s) (mk t) st = g [mk s, mk t] st := rfl
theorem un_mk {st : Sto} {g : List D → M D} (s : List Nat) : ownUn [(3, g)] (mk s) st = g [mk s] st := rfl
def row (d : D) : Prop := ∃ x, d = .tup [mk x, S x] ∧ nrm x
theorem row_mk {x y : List Nat} (h : nrm y) (e : x = y) : row (.tup [mk x, S y]) := ⟨y, by rw [e], h⟩
theorem for_rows {st : Sto} : ∀ (ds : List D) (env : En), env.length = 14 → (∀ d ∈ ds, row d) → ∃ env', forLoop (gT [(gN 11), (gN 12)]) (sIf (tNotM (tVal (truD [(3, m6)]) (eCall (mCall 2 [] m24) (aCons (eVar 11) (aCons (eVar 12) aNil))))) (sRet (eC (.bl false))) sNil) ds env st = .nx env' st
  | [], env, _, _ => ⟨env, rfl⟩
  | d :: ds, env, he, h => by
    obtain ⟨x, rfl, hx⟩ := h d (List.mem_cons_self ..)
    obtain ⟨env', e⟩ := for_rows (st := st) ds ((env.set 11 (.sh (mk x))).set 12 (.sh (S x))) (by simpa using he) fun d hd => h d (List.mem_cons_of_mem _ hd)
    refine ⟨env', ?_⟩
    have g1 : ((env.set 11 (.sh (mk x))).set 12 (.sh (S x)))[11]? = some (.sh (mk x)) := by rw [List.getElem?_set_ne (by decide), List.getElem?_set_self (by omega)]
    have g2 : ((env.set 11 (.sh (mk x))).set 12 (.sh (S x)))[12]? = some (.sh (S x)) := by rw [List.getElem?_set_self (by simp; omega)]
    rw [forLoop_cons]
    simp only [gT_tup, gTs_cons, gTs_nil, gN_app, Option.bind, tgR_some, sIf_app, tNotM_app, tVal_app, eCall_app, aCons_app, eVar_app, g1, g2, slot_sh, bind_ok, kCons_app, aNil_app, kCons2_app, mCall_app]
    rw [if_pos (by rfl)]
    show ((((m24 [mk x, S x] st).bind (truD [(3, m6)])).bind kNot).go _ _).loop _ = _
    rw [m24_eq x (nrm_le hx) (nrm_good hx)]
    exact e
theorem filtE {env : En} {st : Sto} {i : Nat} {x y : EM} {neg : Bool} (u v : List Nat) (hi : i < env.length) (hx : x env st = .ok (S u) st) (hy : ∀ c, y ((env.set i .no).set i (.sh (S [c]))) st = .ok (S v) st) (hu : u.length ≤ 1000) :
    eBm "str" joinD (eC (.str "")) (aCons (eL (lComp (iOwn [(3, "letters")] x) (gN i) (tVal (truD [(3, m6)]) (eOp (inD [(3, m8)] (truD [(3, m6)]) neg) (eVar i) y)) (eVar i) [i])) aNil) env st = .ok (S (u.filter fun c => if neg = true then !decide (c ∈ v) else decide (c ∈ v))) st := by
  have l1 : u.length ≤ LIM := by simp only [LIM]; omega
  have l2 : (u.filter fun c => if neg = true then !decide (c ∈ v) else decide (c ∈ v)).length ≤ LIM := Nat.le_trans (List.length_filter_le _ _) l1
  simp only [eBm_app, eC_app, bind_ok, kBm_app, tyD_str, beq_self_eq_true, if_true, aCons_app, eL_app, lComp_app, iOwn_app, hx, kOwnI_str, signs_S, wipeE]
  rw [comp_signs (by simpa using hi) (fun c => if neg = true then !decide (c ∈ v) else decide (c ∈ v)) u l1 (fun c hc => by
    have g1 : ((env.set i .no).set i (.sh (S [c])))[i]? = some (.sh (S [c])) := List.getElem?_set_self (by simpa using hi)
    simp only [tVal_app, eOp_app, eVar_app, g1, slot_sh, bind_ok, kOp_app, hy, inD_str, subS_one, truD_bl])]
  simp only [bind_ok, kL_app, kCons_app, aNil_app, kCons2_app, lit_nil]
  rw [joinD_one _ l2]
theorem m26_eq {st : Sto} (s t : List Nat) (hs : nrm s) (ht : nrm t) : m26 [mk s, mk t, S s, S t] st = .ok (.bl true) st := by
  have ls := nrm_le hs
  have lt := nrm_le ht
  have gs := nrm_good hs
  have gt := nrm_good ht
  have h4 := filtE (env := [.sh (mk s), .sh (mk t), .sh (S s), .sh (S t), .no, .no, .no, .no, .no, .no, .no, .no, .no, .no]) (st := st) (i := 13) (x := eVar 2) (y := eVar 3) (neg := false) s t (by simp) (by simp) (by simp) (by omega)
  generalize hb : (s.filter fun c => if false = true then !decide (c ∈ t) else decide (c ∈ t)) = bo at h4
  have h5 := filtE (env := [.sh (mk s), .sh (mk t), .sh (S s), .sh (S t), .sh (S bo), .no, .no, .no, .no, .no, .no, .no, .no, .no]) (st := st) (i := 13) (x := eVar 2) (y := eVar 3) (neg := true) s t (by simp) (by simp) (by simp) (by omega)
  generalize hl : (s.filter fun c => if true = true then !decide (c ∈ t) else decide (c ∈ t)) = le at h5
  have h6 := filtE (env := [.sh (mk s), .sh (mk t), .sh (S s), .sh (S t), .sh (S bo), .sh (S le), .no, .no, .no, .no, .no, .no, .no, .no]) (st := st) (i := 13) (x := eVar 3) (y := eVar 2) (neg := true) t s (by simp) (by simp) (by simp) (by omega)
  generalize hr : (t.filter fun c => if true = true then !decide (c ∈ s) else decide (c ∈ s)) = ri at h6
  have h9 := fun ei od => filtE (env := [.sh (mk s), .sh (mk t), .sh (S s), .sh (S t), .sh (S bo), .sh (S le), .sh (S ri), .sh (S ei), .sh (S od), .no, .no, .no, .no, .no]) (st := st) (i := 13) (x := eC (.str "abcdef")) (y := eVar 2) (neg := true) ALL s (by simp) (by rw [lit_all]; rfl) (by simp) (by decide)
  generalize hn : (ALL.filter fun c => if true = true then !decide (c ∈ s) else decide (c ∈ s)) = re at h9
  have nb : nrm bo := by rw [← hb]; exact nrm_filter hs _
  have nl : nrm le := by rw [← hl]; exact nrm_filter hs _
  have nr : nrm ri := by rw [← hr]; exact nrm_filter ht _
  have nn : nrm re := by rw [← hn]; exact nrm_filter nrm_all _
  have mb : ∀ c, c ∈ bo ↔ c ∈ s ∧ c ∈ t := by rw [← hb]; simp
  have ml : ∀ c, c ∈ le ↔ c ∈ s ∧ c ∉ t := by rw [← hl]; simp
  have mr : ∀ c, c ∈ ri ↔ c ∈ t ∧ c ∉ s := by rw [← hr]; simp
  have mn : ∀ c, c ∈ re ↔ c ∈ ALL ∧ c ∉ s := by rw [← hn]; simp
  have lb := nrm_le nb
  have ll := nrm_le nl
  have lr := nrm_le nr
  have ln := nrm_le nn
  have a7 := S_app (st := st) (tab := []) s t (by simp only [LIM]; omega)
  have a8 := S_app (st := st) (tab := []) le ri (by simp only [LIM]; omega)
  have iv := m13_eq (st := st) s
  have nv := nrm_norm (ALL.filter fun c => !decide (c ∈ s))
  have mv : ∀ c, c ∈ norm (ALL.filter fun c => !decide (c ∈ s)) ↔ c ∈ ALL ∧ c ∉ s := by intro c; simp [mem_norm]
  generalize norm (ALL.filter fun c => !decide (c ∈ s)) = v at iv nv mv
  have iw := m13_eq (st := st) v
  have nw := nrm_norm (ALL.filter fun c => !decide (c ∈ v))
  have mw : ∀ c, c ∈ norm (ALL.filter fun c => !decide (c ∈ v)) ↔ c ∈ ALL ∧ c ∉ v := by intro c; simp [mem_norm]
  generalize norm (ALL.filter fun c => !decide (c ∈ v)) = w at iw nw mw
  have lv := nrm_le nv
  have gv := nrm_good nv
  have key : ∀ (R : List D) (E : En), E.length = 14 → (∀ d ∈ R, row d) → ((forLoop (gT [(gN 11), (gN 12)]) (sIf (tNotM (tVal (truD [(3, m6)]) (eCall (mCall 2 [] m24) (aCons (eVar 11) (aCons (eVar 12) aNil))))) (sRet (eC (.bl false))) sNil) R E st).next (sRet (eC (.bl true)))).out = .ok (.bl true) st := by
    intro R E hE hR
    obtain ⟨env', e⟩ := for_rows (st := st) R E hE hR
    rw [e]
    rfl
  simp [m26, runBody_app, b26, env0, ↓h4, ↓h5, ↓h6, ↓h9, a7, a8, m23_eq, own_mk, sub_mk, un_mk, LIM, m9_eq s t ls gs, m9_eq t s lt gt, m9_eq s s ls gs, m10_eq s t ls lt gs gt, m10_eq t s lt ls gt gs, m10_eq s s ls ls gs gs, m11_eq s t ls gs, m11_eq t s lt gt, m11_eq s s ls gs,
    m12_eq s t ls lt gs gt, m12_eq t s lt ls gt gs, m12_eq s s ls ls gs gs, iv, iw, m10_eq s v ls lv gs gv, m9_eq s v ls gs, m11_eq t v lt gt]
  refine key _ _ rfl ?_
  have al : ∀ c, c ∈ s → c ∈ ALL := fun c hc => by
    rw [← hs] at hc
    exact (mem_norm.mp hc).1
  have al2 : ∀ c, c ∈ t → c ∈ ALL := fun c hc => by
    rw [← ht] at hc
    exact (mem_norm.mp hc).1
  simp only [List.forall_mem_cons, lit_nil, lit_all]
  refine ⟨row_mk nb (nrm_ext (nrm_norm _) nb fun c hc => ?_), row_mk nb (nrm_ext (nrm_norm _) nb fun c hc => ?_), row_mk hs (nrm_ext (nrm_norm _) hs fun c hc => ?_), row_mk (nrm_norm _) (nrm_ext (nrm_norm _) (nrm_norm _) fun c hc => ?_), row_mk (nrm_norm _) (nrm_ext (nrm_norm _) (nrm_norm _) fun c hc => ?_), row_mk nl (nrm_ext (nrm_norm _) nl fun c hc => ?_), row_mk nr (nrm_ext (nrm_norm _) nr fun c hc => ?_), row_mk nrm_nil (nrm_ext (nrm_norm _) nrm_nil fun c hc => ?_), row_mk hs (nrm_ext (nrm_norm _) hs fun c hc => ?_),
    row_mk (nrm_norm _) (nrm_ext (nrm_norm _) (nrm_norm _) fun c hc => ?_), row_mk (nrm_norm _) (nrm_ext (nrm_norm _) (nrm_norm _) fun c hc => ?_), row_mk nrm_nil (nrm_ext (nrm_norm _) nrm_nil fun c hc => ?_), row_mk nn (nrm_ext nv nn fun c hc => ?_), row_mk hs (nrm_ext nw hs fun c hc => ?_), row_mk nrm_all (nrm_ext (nrm_norm _) nrm_all fun c hc => ?_), row_mk nrm_nil (nrm_ext (nrm_norm _) nrm_nil fun c hc => ?_), row_mk nb (nrm_ext (nrm_norm _) nb fun c hc => ?_), fun _ h => by cases h⟩
  all_goals
    simp only [mem_norm, List.mem_filter, List.mem_append, mb, ml, mr, mn, mv, mw, hc, Bool.not_eq_true', decide_eq_false_iff_not, decide_eq_true_eq, true_and, List.not_mem_nil] <;>
    (by_cases h1 : c ∈ s <;> by_cases h2 : c ∈ t <;> simp [h1, h2])
/-! ### equal, less -/
def rowB (d : D) : Prop := ∃ b, d = .tup [.bl b, .bl b]
theorem rowB_mk {x y : Bool} (e : x = y) : rowB (.tup [.bl x, .bl y]) := ⟨y, by rw [e]⟩
theorem for_rowsB {st : Sto} {i j n : Nat} (hij : i ≠ j) (hi : i < n) (hj : j < n) : ∀ (ds : List D) (env : En), env.length = n → (∀ d ∈ ds, rowB d) → ∃ env', forLoop (gT [(gN i), (gN j)]) (sIf (tVal (truD [(3, m6)]) (eOp neD (eOp (isD false) (eVar i) (eC (.bl true))) (eVar j))) (sRet (eC (.bl false))) sNil) ds env st = .nx env' st
  | [], env, _, _ => ⟨env, rfl⟩
  | d :: ds, env, he, h => by
    obtain ⟨b, rfl⟩ := h d (List.mem_cons_self ..)
    obtain ⟨env', e⟩ := for_rowsB (st := st) hij hi hj ds ((env.set i (.sh (.bl b))).set j (.sh (.bl b))) (by simpa using he) fun d hd => h d (List.mem_cons_of_mem _ hd)
    refine ⟨env', ?_⟩
    have g1 : ((env.set i (.sh (.bl b))).set j (.sh (.bl b)))[i]? = some (.sh (.bl b)) := by rw [List.getElem?_set_ne (Ne.symm hij), List.getElem?_set_self (by omega)]
    have g2 : ((env.set i (.sh (.bl b))).set j (.sh (.bl b)))[j]? = some (.sh (.bl b)) := by rw [List.getElem?_set_self (by simp; omega)]
    rw [forLoop_cons]
    simp only [gT_tup, gTs_cons, gTs_nil, gN_app, Option.bind, tgR_some, sIf_app, tVal_app, eOp_app, eVar_app, eC_app, g1, g2, slot_sh, bind_ok, kOp_app, isD_bl, neD_bl, truD_bl, go_ok]
    cases b <;> exact e
abbrev NF : Nat → Tag → Bool := nfL [((3, .non), true), ((3, .bl), true), ((3, .int), true), ((3, .str), true), ((3, .lst), true), ((3, .tup), true), ((3, .own 3), true)]
theorem le_mk {st : Sto} {g : List D → M D} (s t : List Nat) : leD [(3, g)] NF (mk s) (mk t) st = g [mk s, mk t] st := rfl
theorem eq_mk {st : Sto} {g : List D → M D} (s t : List Nat) : eqD [(3, g)] NF (mk s) (mk t) st = g [mk s, mk t] st := rfl
theorem eq_mkS {st : Sto} {g : List D → M D} (s : List Nat) (z : Str) : eqD [(3, g)] NF (mk s) (.str z) st = g [mk s, .str z] st := rfl
theorem eq_mkI {st : Sto} {g : List D → M D} (s : List Nat) (z : Int) : eqD [(3, g)] NF (mk s) (.int z) st = g [mk s, .int z] st := rfl
theorem eq_mkL {st : Sto} {g : List D → M D} (s : List Nat) (z : List D) : eqD [(3, g)] NF (mk s) (.lst z) st = g [mk s, .lst z] st := rfl
theorem eq_nil {st : Sto} {tab : Tab} {nf : Nat → Tag → Bool} (l : List Nat) (h : tame l) : eqD tab nf (.lst (l.map fun c => S [c])) (.lst []) st = .ok (.bl (decide (l = []))) st := by
  have e := eqD_lst (tab := tab) (nf := nf) (st := st) (pds_S l) (pds_S []) (shaped_S l h) (shaped_S [] (fun _ h => by cases h))
  rw [show PyData.eqv (.list (l.map fun c => PyData.str ⟨#[c]⟩)) (.list (([] : List Nat).map fun c => PyData.str ⟨#[c]⟩)) = decide (l = []) from eqv_S l []] at e
  exact e
theorem filtL {env : En} {st : Sto} {i : Nat} {x y : EM} {neg : Bool} (u v : List Nat) (hi : i < env.length) (hx : x env st = .ok (S u) st) (hy : ∀ c, y ((env.set i .no).set i (.sh (S [c]))) st = .ok (S v) st) (hu : u.length ≤ 1000) :
    eL (lComp (iOwn [(3, "letters")] x) (gN i) (tVal (truD [(3, m6)]) (eOp (inD [(3, m8)] (truD [(3, m6)]) neg) (eVar i) y)) (eVar i) [i]) env st = .ok (.lst ((u.filter fun c => if neg = true then !decide (c ∈ v) else decide (c ∈ v)).map fun c => S [c])) st := by
  have l1 : u.length ≤ LIM := by simp only [LIM]; omega
  simp only [eL_app, lComp_app, iOwn_app, hx, bind_ok, kOwnI_str, signs_S, wipeE]
  rw [comp_signs (by simpa using hi) (fun c => if neg = true then !decide (c ∈ v) else decide (c ∈ v)) u l1 (fun c hc => by
    have g1 : ((env.set i .no).set i (.sh (S [c])))[i]? = some (.sh (S [c])) := List.getElem?_set_self (by simpa using hi)
    simp only [tVal_app, eOp_app, eVar_app, g1, slot_sh, bind_ok, kOp_app, hy, inD_str, subS_one, truD_bl])]
  rfl
theorem all_filter (s t : List Nat) : (s.all fun c => decide (c ∈ t)) = decide ((s.filter fun c => !decide (c ∈ t)) = []) := by
  induction s with
  | nil => rfl
  | cons a r ih => by_cases h : a ∈ t <;> simp [h, ih]
theorem m27_eq {st : Sto} (s t : List Nat) (hs : nrm s) (ht : nrm t) : m27 [mk s, mk t, S s, S t] st = .ok (.bl true) st := by
  have ls := nrm_le hs
  have lt := nrm_le ht
  have gs := nrm_good hs
  have h4 := filtL (env := [.sh (mk s), .sh (mk t), .sh (S s), .sh (S t), .no, .no, .no, .no, .no, .no]) (st := st) (i := 9) (x := eVar 2) (y := eVar 3) (neg := true) s t (by simp) (by simp) (by simp) (by omega)
  have h5 := fun b => filtL (env := [.sh (mk s), .sh (mk t), .sh (S s), .sh (S t), .sh (.bl b), .no, .no, .no, .no, .no]) (st := st) (i := 9) (x := eVar 3) (y := eVar 2) (neg := true) t s (by simp) (by simp) (by simp) (by omega)
  have q4 := fun nf => eq_nil (st := st) (tab := [(3, m15)]) (nf := nf) (s.filter fun c => !decide (c ∈ t)) (good_tame (good_filter s _ gs))
  have q5 := fun nf => eq_nil (st := st) (tab := [(3, m15)]) (nf := nf) (t.filter fun c => !decide (c ∈ s)) (good_tame (good_filter t _ (nrm_good ht)))
  have ss : ∀ u : List Nat, (u.all fun c => decide (c ∈ u)) = true := fun u => by simp
  have n0 := mi4_eq (st := st) [] (by decide)
  rw [if_pos (by decide)] at n0
  have n1 := mi4_eq (st := st) REV rev_le
  rw [if_pos (by decide)] at n1
  have n2 := mi4_eq (st := st) s (by simp only [LIM]; omega)
  rw [if_pos gs, hs] at n2
  have key : ∀ (R : List D) (E : En), E.length = 10 → (∀ d ∈ R, rowB d) → ((forLoop (gT [(gN 7), (gN 8)]) (sIf (tVal (truD [(3, m6)]) (eOp neD (eOp (isD false) (eVar 7) (eC (.bl true))) (eVar 8))) (sRet (eC (.bl false))) sNil) R E st).next (sRet (eC (.bl true)))).out = .ok (.bl true) st := by
    intro R E hE hR
    obtain ⟨env', e⟩ := for_rowsB (st := st) (i := 7) (j := 8) (n := 10) (by decide) (by decide) (by decide) R E hE hR
    rw [e]
    rfl
  simp [m27, runBody_app, b27, env0, ↓h4, ↓h5, q4, q5, LIM, le_mk, eq_mk, eq_mkS, eq_mkI, eq_mkL, own_mk, un_mk, m14_eq s t ls, m14_eq t s lt, m14_eq s s ls, m15_mk, m15_str, m15_lst, m15_int, m13_eq, lit_nil, lit_rev, n0, n1, n2, m14_eq (norm []) s (norm_le _), m14_eq s (norm REV) ls]
  refine key _ _ rfl ?_
  simp only [List.forall_mem_cons]
  have al : ∀ c, c ∈ s → c ∈ ALL := fun c hc => by
    rw [← hs] at hc
    exact (mem_norm.mp hc).1
  have hR : norm REV = ALL := by decide
  refine ⟨rowB_mk (by rw [Bool.eq_iff_iff]; simp), rowB_mk (by rw [Bool.eq_iff_iff]; simp), rowB_mk (by simp), rowB_mk (by simp [norm]), rowB_mk (by rw [hR]; simpa using al), rowB_mk rfl, rowB_mk (by rw [Bool.eq_iff_iff]; simp; exact eq_comm), rowB_mk rfl, rowB_mk rfl, rowB_mk ?_, rowB_mk rfl, rowB_mk rfl, rowB_mk rfl, fun _ h => by cases h⟩
  simp only [decide_eq_false_iff_not]
  intro e
  have m97 : 97 ∈ ALL := by decide
  by_cases h : 97 ∈ s
  · have h' := h
    rw [e] at h'
    simp [mem_norm, h] at h'
  · exact h (by rw [e]; simp [mem_norm, h, m97])
/-! ### what is made, what is read -/
theorem m28_eq {st : Sto} (l : List Nat) (hl : l.length ≤ 1000) (ht : tame l) : m28 [S l] st = .ok (.bl true) st := by
  have l1 : l.length ≤ LIM := by simp only [LIM]; omega
  have h4 := filtL (env := [.sh (S l), .no, .no, .no, .no]) (st := st) (i := 4) (x := eVar 0) (y := eC (.str "abcdef")) (neg := true) l ALL (by simp) (by simp) (by intro c; rw [lit_all]; rfl) hl
  have q4 := fun nf => eq_nil (st := st) (tab := [(3, m15)]) (nf := nf) (l.filter fun c => !decide (c ∈ ALL)) (tame_sub (fun c h => (List.mem_filter.mp h).1) ht)
  have eg : decide ((l.filter fun c => !decide (c ∈ ALL)) = []) = good l := (all_filter l ALL).symm
  rw [eg] at q4
  have nw := mi4_eq (st := st) l l1
  cases hg : good l with
  | true =>
    rw [hg] at q4 nw
    simp at nw
    simp [m28, runBody_app, b28, env0, ↓h4, q4, LIM, nw, m23_eq, m24_eq (norm l) (norm_le l) (norm_good l)]
  | false =>
    rw [hg] at q4 nw
    simp at nw
    simp [m28, runBody_app, b28, env0, ↓h4, q4, LIM, nw, tryR, subL, List.lookup]
theorem m29_eq {st : Sto} (l : List Nat) (hl : l.length ≤ 1000) : m29 [S l] st = .ok (.bl true) st := by
  have l1 : l.length ≤ LIM := by simp only [LIM]; omega
  have hr := m16_eq (st := st) l
  have nn : norm (norm l) = norm l := nrm_norm l
  have is := m24_eq (st := st) (norm l) (norm_le l) (norm_good l)
  have d1 : decide ((⟨l.toArray⟩ : Str) = ⟨[45].toArray⟩) = decide (l = [45]) := by rw [Bool.eq_iff_iff]; simp [str_eq]
  have d2 : decide ((⟨l.toArray⟩ : Str) = ⟨[].toArray⟩) = decide (l = []) := by rw [Bool.eq_iff_iff]; simp [str_eq]
  have d3 : decide ((⟨(norm l).toArray⟩ : Str) = ⟨l.toArray⟩) = decide (norm l = l) := by rw [Bool.eq_iff_iff]; simp [str_eq]
  rw [nn] at hr
  have n45 : norm [45] = [] := by decide
  by_cases h1 : l = [45]
  · subst h1
    rw [n45] at hr is
    simp at hr
    simp [m29, runBody_app, b29, env0, m23_eq, LIM, lit_dash, n45, hr, is]
  have e1 : decide (l = [45]) = false := by simp [h1]
  rw [e1] at d1
  by_cases h2 : l = []
  · subst h2
    simp [norm] at hr
    simp [m29, runBody_app, b29, env0, m23_eq, LIM, lit_dash, lit_nil, hr, tryR, subL, List.lookup]
  have e2 : decide (l = []) = false := by simp [h2]
  rw [e2] at d2
  by_cases h3 : norm l = l
  · have hc : l = if norm l = [] then [45] else norm l := by rw [h3, if_neg h2]
    rw [if_pos hc] at hr
    rw [h3] at hr is d3
    simp [m29, runBody_app, b29, env0, m23_eq, LIM, lit_dash, lit_nil, hr, h3, h1, h2, is]
  · have hc : ¬ (l = if norm l = [] then [45] else norm l) := by
      by_cases h4 : norm l = []
      · rw [if_pos h4]; exact h1
      · rw [if_neg h4]; exact fun z => h3 z.symm
    rw [if_neg hc] at hr
    have e3 : decide (norm l = l) = false := by simp [h3]
    rw [e3] at d3
    simp [m29, runBody_app, b29, env0, m23_eq, LIM, lit_dash, lit_nil, hr, h1, h2, h3, tryR, subL, List.lookup]
/-! ### the draws -/
def PoolN (n : Nat) (st : Sto) : Prop := ∃ ns : List Int, st = [.lst (ns.map D.int)] ∧ ns.length ≤ n
theorem app_pool {n : Nat} {st : Sto} (h : PoolN n st) (hn : n ≤ 5000) (v : Int) : ∃ st', appD (.cell 0) [.int v] st = .ok .non st' ∧ PoolN (n + 1) st' := by
  obtain ⟨ns, rfl, hl⟩ := h
  have hl2 : ns.length < 16777216 := by omega
  refine ⟨[.lst ((ns ++ [v]).map D.int)], ?_, ns ++ [v], rfl, by simp; omega⟩
  simp [appD, LIM, hl2]
theorem ty_pool {n : Nat} {st : Sto} (h : PoolN n st) : tyD "list" (.cell 0) st = true := by
  obtain ⟨ns, rfl, hl⟩ := h
  rfl
def body1 : SM := (sSeq (sSet 5 (eOp opMod (eCall intD (aCons (eOp (opAdd []) (eOp (opAdd []) (eOp (opMul []) (eVar 2) (eC (.int 7919))) (eOp (opMul []) (eVar 4) (eC (.int 104729)))) (eC (.int 17))) aNil)) (eC (.int 65521))))
  (sExpr (eBm "list" appD (eVar 1) (aCons (eOp opMod (eCall intD (aCons (eOp (opAdd []) (eOp (opAdd []) (eOp (opMul []) (eVar 5) (eVar 5)) (eOp (opMul []) (eVar 4) (eC (.int 31)))) (eOp opFdv (eVar 3) (eC (.int 97)))) aNil)) (eC (.int 1000003))) aNil))))
def body2 : SM := (sIf (tVal (truD [(3, m6)]) (eOp (cmpI fun i j => decide (j < i)) (eVar 3) (eC (.int 0)))) (sSeq (sExpr (eBm "list" appD (eVar 1) (aCons (eOp opMod (eCall intD (aCons (eVar 3) aNil)) (eC (.int 1000000))) aNil)))
  (sSet 3 (eOp opFdv (eVar 3) (eC (.int 1000000))))) sNil)
theorem in1 {A : Slot} {v r : Int} : ∀ (ds : List Int) (n : Nat) (st : Sto) (x4 x5 : Slot), PoolN n st → n + ds.length ≤ 5000 →
    ∃ st' y4 y5, forLoop (gN 4) body1 (ds.map D.int) [A, .sh (.cell 0), .sh (.int v), .sh (.int r), x4, x5] st = .nx [A, .sh (.cell 0), .sh (.int v), .sh (.int r), y4, y5] st' ∧ PoolN (n + ds.length) st'
  | [], n, st, x4, x5, h, _ => ⟨st, x4, x5, rfl, h⟩
  | k :: ds, n, st, x4, x5, h, hn => by
    rw [List.length_cons] at hn
    have o0 : 0 ≤ (v * 7919 + k * 104729 + 17).fmod 65521 := Int.fmod_nonneg_of_pos _ (by decide)
    have o1 : (v * 7919 + k * 104729 + 17).fmod 65521 < 65521 := Int.fmod_lt_of_pos _ (by decide)
    generalize ho : (v * 7919 + k * 104729 + 17).fmod 65521 = o at o0 o1
    have ho' : -18446744073709551616 < o ∧ o < 18446744073709551616 := ⟨by omega, by omega⟩
    obtain ⟨st1, e1, P1⟩ := app_pool h (by omega) ((o * o + k * 31 + r.fdiv 97).fmod 1000003)
    obtain ⟨st2, y4, y5, e2, P2⟩ := in1 ds (n + 1) st1 (.sh (.int k)) (.sh (.int o)) P1 (by omega)
    refine ⟨st2, y4, y5, ?_, by rw [List.length_cons, show n + (ds.length + 1) = n + 1 + ds.length by omega]; exact P2⟩
    rw [List.map_cons, forLoop_cons]
    have eb : body1 [A, .sh (.cell 0), .sh (.int v), .sh (.int r), .sh (.int k), x5] st = .nx [A, .sh (.cell 0), .sh (.int v), .sh (.int r), .sh (.int k), .sh (.int o)] st1 := by
      simp [body1, ho, ho', ty_pool h, e1]
    rw [gN_app, tgR_some]
    show (body1 [A, .sh (.cell 0), .sh (.int v), .sh (.int r), .sh (.int k), x5] st).loop _ = _
    rw [eb, loop_nx, e2]
theorem in2 {A x2 x5 : Slot} : ∀ (ds : List Int) (n : Nat) (st : Sto) (x4 : Slot) (r : Int), PoolN n st → n + ds.length ≤ 5000 →
    ∃ st' y4 q, forLoop (gN 4) body2 (ds.map D.int) [A, .sh (.cell 0), x2, .sh (.int r), x4, x5] st = .nx [A, .sh (.cell 0), x2, .sh (.int q), y4, x5] st' ∧ PoolN (n + ds.length) st'
  | [], n, st, x4, r, h, _ => ⟨st, x4, r, rfl, h⟩
  | k :: ds, n, st, x4, r, h, hn => by
    rw [List.length_cons] at hn
    have step : ∃ st1 q, body2 [A, .sh (.cell 0), x2, .sh (.int r), .sh (.int k), x5] st = .nx [A, .sh (.cell 0), x2, .sh (.int q), .sh (.int k), x5] st1 ∧ PoolN (n + 1) st1 := by
      by_cases hr : 0 < r
      · obtain ⟨st1, e1, P1⟩ := app_pool h (by omega) (r.fmod 1000000)
        exact ⟨st1, r.fdiv 1000000, by simp [body2, hr, ty_pool h, e1], P1⟩
      · obtain ⟨ns, e, hl⟩ := h
        exact ⟨st, r, by simp [body2, hr], ns, e, by omega⟩
    obtain ⟨st1, q1, eb, P1⟩ := step
    obtain ⟨st2, y4, q, e2, P2⟩ := in2 ds (n + 1) st1 (.sh (.int k)) q1 P1 (by omega)
    refine ⟨st2, y4, q, ?_, by rw [List.length_cons, show n + (ds.length + 1) = n + 1 + ds.length by omega]; exact P2⟩
    rw [List.map_cons, forLoop_cons, gN_app, tgR_some]
    show (body2 [A, .sh (.cell 0), x2, .sh (.int r), .sh (.int k), x5] st).loop _ = _
    rw [eb, loop_nx, e2]
def body0 : SM := (sSeq (sSet 3 (eCall absD (aCons (eCall intD (aCons (eVar 2) aNil)) aNil)))
  (sIf (tVal (truD [(3, m6)]) (eOp (cmpI fun i j => decide (i < j)) (eVar 3) (eOp opPow (eC (.int 10)) (eC (.int 18))))) (sFor (iR1 (aCons (eC (.int 8)) aNil)) (gN 4) body1) (sFor (iR1 (aCons (eC (.int 60)) aNil)) (gN 4) body2)))
theorem rng_map (n : Nat) : rngL 0 n = ((List.range n).map fun (i : Nat) => (0 : Int) + (i : Int)).map D.int := by
  unfold rngL
  rw [List.map_map]
  rfl
theorem in0 {A : Slot} : ∀ (ds : List Int) (n : Nat) (st : Sto) (x2 x3 x4 x5 : Slot), PoolN n st → n + 60 * ds.length ≤ 5000 →
    ∃ st' y2 y3 y4 y5, forLoop (gN 2) body0 (ds.map D.int) [A, .sh (.cell 0), x2, x3, x4, x5] st = .nx [A, .sh (.cell 0), y2, y3, y4, y5] st' ∧ PoolN (n + 60 * ds.length) st'
  | [], n, st, x2, x3, x4, x5, h, _ => ⟨st, x2, x3, x4, x5, rfl, h⟩
  | v :: ds, n, st, x2, x3, x4, x5, h, hn => by
    rw [List.length_cons] at hn
    have step : ∃ st1 y3 y4 y5, body0 [A, .sh (.cell 0), .sh (.int v), x3, x4, x5] st = .nx [A, .sh (.cell 0), .sh (.int v), y3, y4, y5] st1 ∧ PoolN (n + 60) st1 := by
      obtain ⟨st1, y4, y5, e1, P1⟩ := in1 (A := A) (v := v) (r := if v < 0 then -v else v) ((List.range 8).map fun (i : Nat) => (0 : Int) + (i : Int)) n st x4 x5 h (by simp; omega)
      obtain ⟨st2, z4, q, e2, P2⟩ := in2 (A := A) (x2 := .sh (.int v)) (x5 := x5) ((List.range 60).map fun (i : Nat) => (0 : Int) + (i : Int)) n st x4 (if v < 0 then -v else v) h (by simp; omega)
      rw [← rng_map] at e1 e2
      by_cases hc : (if v < 0 then -v else v) < 1000000000000000000
      · refine ⟨st1, .sh (.int (if v < 0 then -v else v)), y4, y5, ?_, ?_⟩
        · simp [body0, hc, e1]
        · obtain ⟨ns, e, hl⟩ := P1
          simp at hl
          exact ⟨ns, e, by omega⟩
      · refine ⟨st2, .sh (.int q), z4, x5, ?_, ?_⟩
        · simp [body0, hc, e2]
        · obtain ⟨ns, e, hl⟩ := P2
          simp at hl
          exact ⟨ns, e, by omega⟩
    obtain ⟨st1, y3, y4, y5, eb, P1⟩ := step
    obtain ⟨st2, w2, w3, w4, w5, e2, P2⟩ := in0 (A := A) ds (n + 60) st1 (.sh (.int v)) y3 y4 y5 P1 (by omega)
    refine ⟨st2, w2, w3, w4, w5, ?_, by rw [List.length_cons, show n + 60 * (ds.length + 1) = n + 60 + 60 * ds.length by omega]; exact P2⟩
    rw [List.map_cons, forLoop_cons, gN_app, tgR_some]
    show (body0 [A, .sh (.cell 0), .sh (.int v), x3, x4, x5] st).loop _ = _
    rw [eb, loop_nx, e2]
theorem m17_eq (ns : List Int) (h : ns.length ≤ 63) : ∃ st, m17 [.fix (ns.map D.int)] [] = .ok (.cell 0) st ∧ Pool st := by
  obtain ⟨st, y2, y3, y4, y5, e, P⟩ := in0 (A := .sh (.fix (ns.map D.int))) ns 0 [.lst []] .no .no .no .no ⟨[], rfl, by simp⟩ (by omega)
  refine ⟨st, ?_, ?_⟩
  · have hb : b17 = sSeq (sSet 1 (eCel (lLst aNil))) (sSeq (sFor (iOwn [(3, "letters")] (eVar 0)) (gN 2) body0) (sRet (eVar 1))) := rfl
    simp [m17, runBody_app, hb, env0, LIM, e]
  · obtain ⟨ms, e, hl⟩ := P
    exact ⟨ms, e, by omega⟩
/-! ### the law -/
theorem lit_nl : Str.ofString "\n" = ⟨[10].toArray⟩ := by decide +kernel
theorem lit_sp : Str.ofString " " = ⟨[32].toArray⟩ := by decide +kernel
theorem for_texts {st : Sto} (ds : List D) (env : En) (hi : env.length = 11) (h : ∀ d ∈ ds, ∃ l, d = S l ∧ tame l ∧ l.length ≤ 1000) : ∃ s, forLoop (gN 10) (sIf (tOrM (tNotM (tVal (truD [(3, m6)]) (eCall (mCall 1 [] m28) (aCons (eVar 10) aNil)))) (tNotM (tVal (truD [(3, m6)]) (eCall (mCall 1 [] m29) (aCons (eVar 10) aNil))))) (sRet (eC (.bl false))) sNil) ds env st = .nx (env.set 10 s) st :=
  for_keep ds env (by omega) fun d hd => by
    obtain ⟨l, rfl, ht, hl⟩ := h d hd
    have g : (env.set 10 (.sh (S l)))[10]? = some (.sh (S l)) := List.getElem?_set_self (by omega)
    simp [g, m28_eq l hl ht, m29_eq l hl]
theorem m30_eq (ns : List Int) (h : ns.length ≤ 63) : ∃ st, m30 [.fix (ns.map D.int)] [] = .ok (.bl true) st := by
  obtain ⟨st0, e0, P0⟩ := m17_eq ns h
  obtain ⟨l1, st1, e1, P1, g1, n1⟩ := m19_eq P0
  obtain ⟨l2, st2, e2, P2, g2, n2⟩ := m20_eq l1 g1 n1 P1
  have w1 := mi4_eq (st := st2) l1 (by simp only [LIM]; omega)
  rw [if_pos g1] at w1
  have w2 := mi4_eq (st := st2) l2 (by simp only [LIM]; omega)
  rw [if_pos g2] at w2
  have w0 := mi4_eq (st := st2) [] (by decide)
  rw [if_pos (by decide)] at w0
  have s1 := nrm_norm l1
  have s2 := nrm_norm l2
  have k1 := norm_le l1
  have k2 := norm_le l2
  have is1 := fun st => m24_eq (st := st) (norm l1) k1 (norm_good l1)
  have is2 := fun st => m24_eq (st := st) (norm l2) k2 (norm_good l2)
  have is0 := m24_eq (st := st2) [] (by decide) (by decide)
  have n0 : norm [] = [] := by decide
  rw [n0] at w0
  have a12 := S_app (st := st2) (tab := []) l1 l2 (by simp only [LIM]; omega)
  have r1 := m25_eq (st := st2) (norm l1) (l1 ++ l2) (by simp; omega)
  have r2 := fun st => m25_eq (st := st) (norm l2) l2 (by omega)
  have r3 := m26_eq (st := st2) (norm l1) (norm l2) s1 s2
  have r4 := m27_eq (st := st2) (norm l1) (norm l2) s1 s2
  have hp : ∃ pl, eOp (opAdd []) (eVar 6) (eOp (opMul []) (eC (.str "-")) (eCall intD (aCons (eOp (eqD [(3, m15)] (nfL [((3, .non), true), ((3, .bl), true), ((3, .int), true), ((3, .str), true), ((3, .lst), true), ((3, .tup), true), ((3, .own 3), true)])) (eVar 6) (eC (.str ""))) aNil)))
      [.sh (.fix (ns.map D.int)), .sh (.cell 0), .sh (S l1), .sh (S l2), .sh (mk (norm l1)), .sh (mk (norm l2)), .sh (S (norm l1)), .sh (S (norm l2)), .no, .no, .no] st2 = .ok (S pl) st2 ∧ tame pl ∧ pl.length ≤ 6 := by
    by_cases hz : norm l1 = []
    · have a0 := S_app (st := st2) (tab := []) [] [45] (by decide)
      refine ⟨[45], ?_, fun c hc => ?_, by decide⟩
      · rw [hz]
        simp only [eOp_app, eVar_app, List.getElem?_cons_succ, List.getElem?_cons_zero, slot_sh, bind_ok, kOp_app, eC_app, eCall_app, aCons_app, eqD_str, kCons_app, aNil_app, kCons2_app, lit_nil, lit_dash, decide_true, intD_bl, if_true, opMul_str]
        simpa using a0
      · have : c = 45 := by simpa using hc
        subst this; decide
    · have a0 := S_app (st := st2) (tab := []) (norm l1) [] (by simp only [LIM, List.length_nil]; omega)
      rw [List.append_nil] at a0
      have hz' : decide ((⟨(norm l1).toArray⟩ : Str) = ⟨[].toArray⟩) = false := by
        rw [decide_eq_false_iff_not]
        exact fun z => hz ((str_eq _ []).mp z)
      refine ⟨norm l1, ?_, good_tame (norm_good l1), k1⟩
      simp only [eOp_app, eVar_app, List.getElem?_cons_succ, List.getElem?_cons_zero, slot_sh, bind_ok, kOp_app, eC_app, eCall_app, aCons_app, eqD_str, kCons_app, aNil_app, kCons2_app, lit_nil, lit_dash, hz', intD_bl, opMul_str]
      simpa using a0
  obtain ⟨pl, ep, tp, lp⟩ := hp
  have a1 := S_app (st := st2) (tab := []) pl [10] (by simp only [LIM, List.length_cons, List.length_nil]; omega)
  have a2 := S_app (st := st2) (tab := []) [32] pl (by simp only [LIM, List.length_cons, List.length_nil]; omega)
  have t45 : tame [45] := fun c hc => by
    have : c = 45 := by simpa using hc
    subst this; decide
  have t10 : tame [10] := fun c hc => by
    have : c = 10 := by simpa using hc
    subst this; decide
  have t32 : tame [32] := fun c hc => by
    have : c = 32 := by simpa using hc
    subst this; decide
  obtain ⟨b1, st3, e3, P3, t3, n3⟩ := m22_eq l1 (good_tame g1) (by omega) P2
  obtain ⟨b2, st4, e4, P4, t4, n4⟩ := m22_eq pl tp (by omega) P3
  obtain ⟨b3, st5, e5, P5, t5, n5⟩ := m22_eq [45] t45 (by decide) P4
  obtain ⟨b4, st6, e6, P6, t6, n6⟩ := m22_eq b2 t4 (by omega) P5
  refine ⟨st6, ?_⟩
  have key : ∀ (R : List D) (E : En), E.length = 11 → E[5]? = some (.sh (mk (norm l2))) → E[7]? = some (.sh (S (norm l2))) → E[3]? = some (.sh (S l2)) → E[4]? = some (.sh (mk (norm l1))) → E[6]? = some (.sh (S (norm l1))) → (∀ d ∈ R, ∃ l, d = S l ∧ tame l ∧ l.length ≤ 1000) →
      ((forLoop (gN 10) (sIf (tOrM (tNotM (tVal (truD [(3, m6)]) (eCall (mCall 1 [] m28) (aCons (eVar 10) aNil)))) (tNotM (tVal (truD [(3, m6)]) (eCall (mCall 1 [] m29) (aCons (eVar 10) aNil))))) (sRet (eC (.bl false))) sNil) R E st6).next
        (sRet (eAnd (truD [(3, m6)]) (eCall (mCall 3 [] m25) (aCons (eVar 5) (aCons (eVar 7) (aCons (eVar 3) aNil)))) (eAnd (truD [(3, m6)]) (eCall (mCall 2 [] m24) (aCons (eVar 4) (aCons (eVar 6) aNil))) (eCall (mCall 2 [] m24) (aCons (eVar 5) (aCons (eVar 7) aNil))))))).out = .ok (.bl true) st6 := by
    intro R E hE h5 h7 h3 h4 h6 hR
    obtain ⟨s, e⟩ := for_texts (st := st6) R E hE hR
    rw [e, next_nx]
    simp [h5, h7, h3, h4, h6, r2, is1, is2]
  have a1' : opAdd [] (S pl) (.str (Str.ofString "\n")) st2 = .ok (S (pl ++ [10])) st2 := by rw [lit_nl]; exact a1
  have a2' : opAdd [] (.str (Str.ofString " ")) (S pl) st2 = .ok (S ([32] ++ pl)) st2 := by rw [lit_sp]; exact a2
  have w0' : mi4 [.str (Str.ofString "")] st2 = .ok [("letters", S [])] st2 := by rw [lit_nil]; exact w0
  have is0' : m24 [mk [], .str (Str.ofString "")] st2 = .ok (.bl true) st2 := by rw [lit_nil]; exact is0
  have e5' : m22 [.cell 0, .str (Str.ofString "-")] st4 = .ok (S b3) st5 := by rw [lit_dash]; exact e5
  simp [m30, runBody_app, b30, env0, e0, e1, e2, w1, w2, w0', m23_eq, is1, is2, is0', a12, r1, r3, r4, ↓ep, ↓a1', ↓a2', e3, e4, e5', e6, LIM, ixD, seqOf, atI, ixN]
  refine key _ _ rfl rfl rfl rfl rfl rfl ?_
  simp only [List.forall_mem_cons]
  exact ⟨⟨l1, rfl, good_tame g1, by omega⟩, ⟨l2, rfl, good_tame g2, by omega⟩, ⟨pl, rfl, tp, by omega⟩, ⟨norm l2, rfl, good_tame (norm_good l2), by omega⟩, ⟨[45], by rw [lit_dash], t45, by decide⟩, ⟨[], by rw [lit_nil], (fun c h => by cases h), by decide⟩, ⟨pl ++ [10], rfl, tame_app tp t10, by simp; omega⟩, ⟨32 :: pl, rfl, tame_app t32 tp, by simp; omega⟩, ⟨b1, rfl, t3, by omega⟩, ⟨b2, rfl, t4, by omega⟩, ⟨b3, rfl, t5, by simp at n5; omega⟩, ⟨b4, rfl, t6, by omega⟩, fun _ h => by cases h⟩
end W00

open PySem PySem.W PyProof.Rows
set_option maxRecDepth 100000 in
set_option maxHeartbeats 0 in
theorem PySem.Challenge.cw_pagebureau_k00_marks_as_sets_holds : PySem.Challenge.rw_pagebureau_k00_marks_as_sets.Holds := by
  w_on; o_law; k_head; (case hw => w_witness2)
  k_fill
  refine Mi.law_walk (l := PySem.Challenge.rw_pagebureau_k00_marks_as_sets) (k := 19) (x := "_law_script") (m := W00.m30) rfl rfl ⟨rfl, by decide, by decide⟩ W00.m30_eq (fun w h Y => PySem.W.kIn_of Y) ?_
  intro w mg fa h KX G hmg
  refine' W00.all_mk KX G hmg ?mgc1a ?mgc2a ?g2a ?z_isinstancea ?z_stra ?mgc3a ?z_lena ?g3a ?z_alla ?z_itera ?g17a ?z_inta ?z_absa ?z_rangea ?g18a ?g19a ?g20a ?g21a ?g22a ?g23a ?g24a ?g25a ?g26a ?g27a ?g28a ?mgc0a ?z_ValueErrora ?g29a ?g30a ?fi0a ?fi1a ?cv3_ALLa ?fi4a ?fi5a ?fi6a ?fi7a ?me7a ?fi8a ?me6a ?fi9a ?mk3a ?me8a ?fi10a ?fi11a ?fi12a ?me11a ?me10a ?me9a ?fi13a ?fi14a ?fi15a ?cm16a ?me15a ?me5a ?me12a ?me13a ?me14a ?cm16r ?F0l ?ox1c ?F1l ?ox2c ?F2l ?F3l ?F4l ?F4t ?F5l ?F6l ?F7l ?F8l ?F9l ?F10l ?F11l ?F12l ?F13l ?F14l ?F15l ?F16l ?F17l ?F18l ?F19l ?F20l ?F21l ?F22l ?F23l ?F24l ?F25l ?F26l ?F27l ?F28l ?F29l ?F30l ?F0c ?F0k ?ox1r ?ox1s ?ox1e ?ox1t ?ox1k ?na1_givena ?F1c ?F1k ?ox2r ?ox2s ?ox2e ?ox2t ?ox2k ?na2_ata ?F2c ?F2k ?kit_non_stra ?kit_bl_stra ?kit_int_stra ?kit_str_stra ?kit_lst_stra ?kit_tup_stra ?kit_o3_stra ?cl3pg ?cl3hd ?cl3po ?cl3sa ?cl3ha ?cl3hn ?cl3ht ?cl3hm ?cr3r ?cr3g ?cv3_ALLr ?F3c ?F3k ?F4c ?F4k ?F4u ?F4v ?ti0a ?na3_lettersa ?F5c ?F5k ?F6c ?F6k ?F7c ?F7k ?me7f ?me7k ?F8c ?F8k ?me6f ?me6k ?sf3a ?nb3a ?F9c ?F9k ?mk3m ?mk3f ?mk3k ?me8f ?me8k ?kc3a ?F10c ?F10k ?F11c ?F11k ?F12c ?F12k ?me11f ?me11k ?me10f ?me10k ?me9f ?me9k ?F13c ?F13k ?F14c ?F14k ?F15c ?F15k ?kit_non_c3a ?kit_bl_c3a ?kit_int_c3a ?kit_str_c3a ?kit_lst_c3a ?kit_tup_c3a ?kit_o3_c3a ?cm16f ?F16c ?F16k ?ti1a ?F17c ?F17k ?F18c ?F18k ?me15f ?me15k ?nf3_nona ?nf3_bla ?nf3_inta ?nf3_stra ?nf3_lsta ?nf3_tupa ?nf3_3oa ?F19c ?F19k ?F20c ?F20k ?F21c ?F21k ?F22c ?F22k ?F23c ?F23k ?F24c ?F24k ?me5f ?me5k ?F25c ?F25k ?F26c ?F26k ?me12f ?me12k ?me13f ?me13k ?F27c ?F27k ?me14f ?me14k ?F28c ?F28k ?exm2_c0a ?exm1_c0a ?kitx2_c1a ?xc2a ?xc2b ?xc2s ?xc2d ?xc2h ?xc2n ?xc2t ?xc2m ?xi2a ?kitx1_c1a ?xc1a ?xc1b ?xc1s ?xc1d ?xc1h ?xc1n ?xc1t ?xc1m ?xi1a ?kitx2_c2a ?kitx1_c2a ?kitx2_ValueErrora ?kitx1_ValueErrora ?xf1a ?xf1b ?xf1s ?xf1d ?F29c ?F29k ?xf2a ?xf2b ?xf2s ?xf2d ?F30c ?F30k
  (case mgc1a => k_is)
  (case mgc2a => k_is)
  (case g2a => k_is)
  (case z_isinstancea => k_is)
  (case z_stra => k_is)
  (case mgc3a => k_is)
  (case z_lena => k_is)
  (case g3a => k_is)
  (case z_alla => k_is)
  (case z_itera => k_is)
  (case g17a => k_is)
  (case z_inta => k_is)
  (case z_absa => k_is)
  (case z_rangea => k_is)
  (case g18a => k_is)
  (case g19a => k_is)
  (case g20a => k_is)
  (case g21a => k_is)
  (case g22a => k_is)
  (case g23a => k_is)
  (case g24a => k_is)
  (case g25a => k_is)
  (case g26a => k_is)
  (case g27a => k_is)
  (case g28a => k_is)
  (case mgc0a => k_is)
  (case z_ValueErrora => k_is)
  (case g29a => k_is)
  (case g30a => k_is)
  (case fi0a => k_is)
  (case fi1a => k_is)
  (case cv3_ALLa => k_is)
  (case fi4a => k_is)
  (case fi5a => k_is)
  (case fi6a => k_is)
  (case fi7a => k_is)
  (case me7a => k_is)
  (case fi8a => k_is)
  (case me6a => k_is)
  (case fi9a => k_is)
  (case mk3a => k_is)
  (case me8a => k_is)
  (case fi10a => k_is)
  (case fi11a => k_is)
  (case fi12a => k_is)
  (case me11a => k_is)
  (case me10a => k_is)
  (case me9a => k_is)
  (case fi13a => k_is)
  (case fi14a => k_is)
  (case fi15a => k_is)
  (case cm16a => k_is)
  (case me15a => k_is)
  (case me5a => k_is)
  (case me12a => k_is)
  (case me13a => k_is)
  (case me14a => k_is)
  (case cm16r => k_is)
  (case F0l => k_is)
  (case ox1c => k_is)
  (case F1l => k_is)
  (case ox2c => k_is)
  (case F2l => k_is)
  (case F3l => k_is)
  (case F4l => k_is)
  (case F4t => k_is)
  (case F5l => k_is)
  (case F6l => k_is)
  (case F7l => k_is)
  (case F8l => k_is)
  (case F9l => k_is)
  (case F10l => k_is)
  (case F11l => k_is)
  (case F12l => k_is)
  (case F13l => k_is)
  (case F14l => k_is)
  (case F15l => k_is)
  (case F16l => k_is)
  (case F17l => k_is)
  (case F18l => k_is)
  (case F19l => k_is)
  (case F20l => k_is)
  (case F21l => k_is)
  (case F22l => k_is)
  (case F23l => k_is)
  (case F24l => k_is)
  (case F25l => k_is)
  (case F26l => k_is)
  (case F27l => k_is)
  (case F28l => k_is)
  (case F29l => k_is)
  (case F30l => k_is)
  (case F0c => k_is)
  (case F0k => k_is)
  (case ox1r => rfl)
  (case ox1s => k_is)
  (case ox1e => k_is)
  (case ox1t => k_is)
  (case ox1k => k_is)
  (case na1_givena => k_is)
  (case F1c => k_is)
  (case F1k => k_is)
  (case ox2r => rfl)
  (case ox2s => k_is)
  (case ox2e => k_is)
  (case ox2t => k_is)
  (case ox2k => k_is)
  (case na2_ata => k_is)
  (case F2c => k_is)
  (case F2k => k_is)
  (case kit_non_stra => kit_is)
  (case kit_bl_stra => kit_is)
  (case kit_int_stra => kit_is)
  (case kit_str_stra => kit_is)
  (case kit_lst_stra => kit_is)
  (case kit_tup_stra => kit_is)
  (case kit_o3_stra => kit_is)
  (case cl3pg => k_is)
  (case cl3hd => k_is)
  (case cl3po => k_is)
  (case cl3sa => k_is)
  (case cl3ha => k_is)
  (case cl3hn => k_is)
  (case cl3ht => k_is)
  (case cl3hm => k_is)
  (case cr3r => k_is)
  (case cr3g => k_is)
  (case cv3_ALLr => exact ⟨_, rfl⟩)
  (case F3c => k_is)
  (case F3k => k_is)
  (case F4c => k_is)
  (case F4k => k_is)
  (case F4u => rfl)
  (case F4v => exact .cons ⟨_, rfl⟩ .nil)
  (case ti0a => k_is)
  (case na3_lettersa => k_is)
  (case F5c => k_is)
  (case F5k => k_is)
  (case F6c => k_is)
  (case F6k => k_is)
  (case F7c => k_is)
  (case F7k => k_is)
  (case me7f => k_is)
  (case me7k => k_is)
  (case F8c => k_is)
  (case F8k => k_is)
  (case me6f => k_is)
  (case me6k => k_is)
  (case sf3a => k_is)
  (case nb3a => k_is)
  (case F9c => k_is)
  (case F9k => k_is)
  (case mk3m => k_is)
  (case mk3f => k_is)
  (case mk3k => k_is)
  (case me8f => k_is)
  (case me8k => k_is)
  (case kc3a => k_is)
  (case F10c => k_is)
  (case F10k => k_is)
  (case F11c => k_is)
  (case F11k => k_is)
  (case F12c => k_is)
  (case F12k => k_is)
  (case me11f => k_is)
  (case me11k => k_is)
  (case me10f => k_is)
  (case me10k => k_is)
  (case me9f => k_is)
  (case me9k => k_is)
  (case F13c => k_is)
  (case F13k => k_is)
  (case F14c => k_is)
  (case F14k => k_is)
  (case F15c => k_is)
  (case F15k => k_is)
  (case kit_non_c3a => kit_is)
  (case kit_bl_c3a => kit_is)
  (case kit_int_c3a => kit_is)
  (case kit_str_c3a => kit_is)
  (case kit_lst_c3a => kit_is)
  (case kit_tup_c3a => kit_is)
  (case kit_o3_c3a => kit_is)
  (case cm16f => k_is)
  (case F16c => k_is)
  (case F16k => k_is)
  (case ti1a => k_is)
  (case F17c => k_is)
  (case F17k => k_is)
  (case F18c => k_is)
  (case F18k => k_is)
  (case me15f => k_is)
  (case me15k => k_is)
  (case nf3_nona => k_is)
  (case nf3_bla => k_is)
  (case nf3_inta => k_is)
  (case nf3_stra => k_is)
  (case nf3_lsta => k_is)
  (case nf3_tupa => k_is)
  (case nf3_3oa => k_is)
  (case F19c => k_is)
  (case F19k => k_is)
  (case F20c => k_is)
  (case F20k => k_is)
  (case F21c => k_is)
  (case F21k => k_is)
  (case F22c => k_is)
  (case F22k => k_is)
  (case F23c => k_is)
  (case F23k => k_is)
  (case F24c => k_is)
  (case F24k => k_is)
  (case me5f => k_is)
  (case me5k => k_is)
  (case F25c => k_is)
  (case F25k => k_is)
  (case F26c => k_is)
  (case F26k => k_is)
  (case me12f => k_is)
  (case me12k => k_is)
  (case me13f => k_is)
  (case me13k => k_is)
  (case F27c => k_is)
  (case F27k => k_is)
  (case me14f => k_is)
  (case me14k => k_is)
  (case F28c => k_is)
  (case F28k => k_is)
  (case exm2_c0a => kts_exm)
  (case exm1_c0a => kts_exm)
  (case kitx2_c1a => kit_is)
  (case xc2a => k_is)
  (case xc2b => k_is)
  (case xc2s => k_is)
  (case xc2d => k_is)
  (case xc2h => k_is)
  (case xc2n => k_is)
  (case xc2t => k_is)
  (case xc2m => k_is)
  (case xi2a => k_is)
  (case kitx1_c1a => kit_is)
  (case xc1a => k_is)
  (case xc1b => k_is)
  (case xc1s => k_is)
  (case xc1d => k_is)
  (case xc1h => k_is)
  (case xc1n => k_is)
  (case xc1t => k_is)
  (case xc1m => k_is)
  (case xi1a => k_is)
  (case kitx2_c2a => kit_is)
  (case kitx1_c2a => kit_is)
  (case kitx2_ValueErrora => kit_is)
  (case kitx1_ValueErrora => kit_is)
  (case xf1a => k_is)
  (case xf1b => k_is)
  (case xf1s => k_is)
  (case xf1d => k_is)
  (case F29c => k_is)
  (case F29k => k_is)
  (case xf2a => k_is)
  (case xf2b => k_is)
  (case xf2s => k_is)
  (case xf2d => k_is)
  (case F30c => k_is)
  (case F30k => k_is)

