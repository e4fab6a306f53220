import PyProof.Rows.All
import Wide.All
import OpenK.AllK
import Wide.FinOn
import HandS.ForMost
import HandS.ForExc
import HandS.Lambda
import HandS.Flow
import HandS.TryOnly
import HandS.ExcInit
import HandS.ExcField
import HandS.ExcIs
import HandS.IsInst
import KE.KExcIs
import HandS.Style
import HandS.Deep
import KE.KOpsOwn
import HandS.Wide
import PyProof.StrBlock2
import HandS.ClsMeth
import HandS.Iter
import HandS.Walk
import HandS.IterVal
import KE.KOwnIter
import HandS.Defaults
import HandS.HotCalls
import HandS.TryElse
import PyProof.ListMulAny
import HandS.OwnIter
import HandS.RevRange
import HandS.NoneIn
import HandS.TupAny
import HandS.EndTab
import KE.SortKeyHeap
import HandS.Star
import KE.KTurns
import KE.GoesMore
import HandS.Property
import HandS.New0
import HandS.Dict
import HandS.SetKeys
import HandS.Small
import HandS.Head0
import HandS.Head1
import HandS.Head2
import HandS.HeadEnd
import HandS.HeadHook1
import HandS.HeadHook2
import HandS.SetBool
import HandS.Strs
import HandS.FStr
import HandS.Text
import HandS.RaiseMore
import KE.KUnpack
import PyProof.CollectIter
import KE.KRevSl
import HandS.More
import HandS.HeadHook3
import PyProof.StrLawsIn
import KE.KEqSeq
import KE.SortLaws
import PySem.Challenge.RW_pagebureau_k19_fill_text_and_refusals
set_option Elab.async false
set_option linter.all false
set_option maxRecDepth 100000
set_option maxHeartbeats 4000000
/-! MiCore: programs as pure functions over trees and cells; the judgements and their basic lemmas. -/
namespace Mi
open PySem PySem.Spec PyProof.Rows L2
/-! ### data -/
inductive D where
  | non | bl (b : Bool) | int (i : Int) | str (x : Str)
  | lst (xs : List D) | tup (xs : List D) | ins (c : Nat) (fs : List (Str × D))
  | cell (n : Nat) | cls (c : Nat) | ty (n : String)
  /-- a list that stands fast: the script, one of the module's own -/
  | fix (xs : List D)
abbrev Fs := List (Str × D)
/-- what a cell holds -/
inductive Cl where
  | lst (xs : List D) | ins (c : Nat) (fs : Fs) | dk (kvs : List (Key × D))
  /-- a def's table of code objects: at the address n, of the lambdas named q -/
  | tab (n : Nat) (q : Str)
abbrev Sto := List Cl
/-- a world: what may change, the cells, the heap -/
structure Wd where
  av : Addr → Prop
  g : List Addr
  h : Hp
  trk : ∀ p, av p → h p ≠ none
  gav : ∀ p ∈ g, av p
/-- a list, a tuple of the written part -/
def WrL (K : PySem.W.Frag) (p : Addr) (xs : List V) : Prop := SqL K (fun _ => none) p xs
def WrT (K : PySem.W.Frag) (p : Addr) (xs : List V) : Prop := SqT K (fun _ => none) p xs
theorem rd_none {p : Addr} {u : HO} (h : Rd (fun _ => none) p u) : False := by
  rcases h with h | ⟨o, h⟩ <;> cases h
theorem WrL.sq {K : PySem.W.Frag} {p : Addr} {xs : List V} {H : Hp} (h : WrL K p xs) : SqL K H p xs := by
  rcases h with h | h
  · exact (rd_none h).elim
  · exact .inr h
theorem WrT.sq {K : PySem.W.Frag} {p : Addr} {xs : List V} {H : Hp} (h : WrT K p xs) : SqT K H p xs := by
  rcases h with h | h
  · exact (rd_none h).elim
  · exact .inr h
mutual
inductive Rep (K : PySem.W.Frag) (ca : Nat → Addr) (W : Wd) : V → D → Prop where
  | non : Rep K ca W .non .non
  | bl (b : Bool) : Rep K ca W (.bl b) (.bl b)
  | int (i : Int) : Rep K ca W (.int i) (.int i)
  | str (x : Str) : Rep K ca W (.str x) (.str x)
  | lst {p : Addr} {xs : List V} {ds : List D} : ¬ W.av p → W.h p = some (.lst xs) → Reps K ca W xs ds → Rep K ca W (.ref p) (.lst ds)
  | fix {p : Addr} {xs : List V} {ds : List D} : ¬ W.av p → Rd W.h p (.lst xs) → Reps K ca W xs ds → Rep K ca W (.ref p) (.fix ds)
  | fixK {p : Addr} {xs : List V} {ds : List D} : WrL K p xs → Reps K ca W xs ds → Rep K ca W (.ref p) (.fix ds)
  | tup {p : Addr} {xs : List V} {ds : List D} : ¬ W.av p → Rd W.h p (.tup xs) → Reps K ca W xs ds → Rep K ca W (.ref p) (.tup ds)
  | tupK {p : Addr} {xs : List V} {ds : List D} : WrT K p xs → Reps K ca W xs ds → Rep K ca W (.ref p) (.tup ds)
  | ins {p dx : Addr} {c : Nat} {fs : List (Str × V)} {gs : Fs} : ¬ W.av p → W.h p = some (.ins (ca c) dx fs) → RepF K ca W fs gs → Rep K ca W (.ref p) (.ins c gs)
  | cell {n : Nat} {p : Addr} : W.g[n]? = some p → Rep K ca W (.ref p) (.cell n)
  | cls (c : Nat) : Rep K ca W (.ref (ca c)) (.cls c)
  | ty (n : String) : Rep K ca W (.ty n) (.ty n)
inductive Reps (K : PySem.W.Frag) (ca : Nat → Addr) (W : Wd) : List V → List D → Prop where
  | nil : Reps K ca W [] []
  | cons {v : V} {d : D} {vs : List V} {ds : List D} : Rep K ca W v d → Reps K ca W vs ds → Reps K ca W (v :: vs) (d :: ds)
inductive RepF (K : PySem.W.Frag) (ca : Nat → Addr) (W : Wd) : List (Str × V) → Fs → Prop where
  | nil : RepF K ca W [] []
  | cons {f : Str} {v : V} {d : D} {vs : List (Str × V)} {ds : Fs} : Rep K ca W v d → RepF K ca W vs ds → RepF K ca W ((f, v) :: vs) ((f, d) :: ds)
end
/-- a world that grew: trees and what others own stand; cells may have changed -/
structure Ext (W W' : Wd) : Prop where
  keep : ∀ p o, ¬ W.av p → W.h p = some o → W'.h p = some o
  own : ∀ p, W.av p → p ∉ W.g → W'.h p = W.h p
  av : ∀ p, W.av p → W'.av p
  new : ∀ p, W'.av p → W.av p ∨ W.h p = none
  stay : ∀ p, W'.h p = none → W.h p = none
  pre : ∃ l, W'.g = W.g ++ l ∧ ∀ p ∈ l, W.h p = none
/-- trees stand -/
structure Kp (W W' : Wd) : Prop where
  keep : ∀ p o, ¬ W.av p → W.h p = some o → W'.h p = some o
  new : ∀ p, W'.av p → W.av p ∨ W.h p = none
  stay : ∀ p, W'.h p = none → W.h p = none
  pre : ∃ l, W'.g = W.g ++ l ∧ ∀ p ∈ l, W.h p = none
theorem Ext.kp {W W' : Wd} (e : Ext W W') : Kp W W' := ⟨e.keep, e.new, e.stay, e.pre⟩
theorem Kp.refl (W : Wd) : Kp W W := ⟨fun _ _ _ h => h, fun _ h => .inl h, fun _ h => h, [], by simp, fun _ h => by simp at h⟩
theorem Kp.trans {W W1 W2 : Wd} (a : Kp W W1) (b : Kp W1 W2) : Kp W W2 := by
  obtain ⟨l1, e1, f1⟩ := a.pre
  obtain ⟨l2, e2, f2⟩ := b.pre
  refine ⟨fun p o n h => b.keep p o (fun z => ?_) (a.keep p o n h), fun p h => ?_, fun p h => a.stay p (b.stay p h), l1 ++ l2, by rw [e2, e1, List.append_assoc], fun p hp => ?_⟩
  · rcases a.new p z with z | z
    · exact n z
    · rw [h] at z; cases z
  · rcases b.new p h with h | h
    · exact a.new p h
    · exact .inr (a.stay p h)
  · rcases List.mem_append.mp hp with z | z
    · exact f1 p z
    · exact a.stay p (f2 p z)
theorem Ext.refl (W : Wd) : Ext W W := ⟨fun _ _ _ h => h, fun _ _ _ => rfl, fun _ h => h, fun _ h => .inl h, fun _ h => h, [], by simp, fun _ h => by simp at h⟩
theorem Kp.nocell {W W' : Wd} (e : Kp W W') {p : Addr} (h : W.av p) (n : p ∉ W.g) : p ∉ W'.g := by
  obtain ⟨l, e, f⟩ := e.pre
  rw [e]
  simp only [List.mem_append, not_or]
  exact ⟨n, fun z => W.trk p h (f p z)⟩
theorem Ext.trans {W W1 W2 : Wd} (a : Ext W W1) (b : Ext W1 W2) : Ext W W2 := by
  have k := a.kp.trans b.kp
  refine ⟨k.keep, fun p h n => ?_, fun p h => b.av p (a.av p h), k.new, k.stay, k.pre⟩
  rw [b.own p (a.av p h) (a.kp.nocell h n), a.own p h n]
/-- what a tree's reading leans on -/
structure Kw (W W' : Wd) : Prop where
  keep : ∀ p o, ¬ W.av p → W.h p = some o → W'.h p = some o
  new : ∀ p, W'.av p → W.av p ∨ W.h p = none
  pre : ∃ l, W'.g = W.g ++ l
theorem Kp.kw {W W' : Wd} (e : Kp W W') : Kw W W' := ⟨e.keep, e.new, let ⟨l, h, _⟩ := e.pre; ⟨l, h⟩⟩
theorem Kw.nav {W W' : Wd} (e : Kw W W') {p : Addr} {o : HO} (n : ¬ W.av p) (h : W.h p = some o) : ¬ W'.av p := fun z => by
  rcases e.new p z with z | z
  · exact n z
  · rw [h] at z; cases z
theorem Kw.rd {W W' : Wd} (e : Kw W W') {p : Addr} {u : HO} (n : ¬ W.av p) (h : Rd W.h p u) : ¬ W'.av p ∧ Rd W'.h p u := by
  rcases h with h | ⟨o, h⟩
  · exact ⟨e.nav n h, .inl (e.keep _ _ n h)⟩
  · exact ⟨e.nav n h, .inr ⟨o, e.keep _ _ n h⟩⟩
section
variable {K : PySem.W.Frag} {ca : Nat → Addr} {W W' : Wd}
mutual
theorem Rep.kw0 (e : Kw W W') : ∀ {v : V} {d : D}, Rep K ca W v d → Rep K ca W' v d
  | _, _, .non => .non
  | _, _, .bl b => .bl b
  | _, _, .int i => .int i
  | _, _, .str x => .str x
  | _, _, .lst n h r => .lst (e.nav n h) (e.keep _ _ n h) (Reps.kw0 e r)
  | _, _, .fix n h r => .fix (e.rd n h).1 (e.rd n h).2 (Reps.kw0 e r)
  | _, _, .fixK h r => .fixK h (Reps.kw0 e r)
  | _, _, .tup n h r => .tup (e.rd n h).1 (e.rd n h).2 (Reps.kw0 e r)
  | _, _, .tupK h r => .tupK h (Reps.kw0 e r)
  | _, _, .ins n h r => .ins (e.nav n h) (e.keep _ _ n h) (RepF.kw0 e r)
  | _, _, .cell h => .cell (by
      obtain ⟨l, q⟩ := e.pre
      rw [q, List.getElem?_append_left (List.getElem?_eq_some_iff.mp h).1]
      exact h)
  | _, _, .cls c => .cls c
  | _, _, .ty n => .ty n
theorem Reps.kw0 (e : Kw W W') : ∀ {vs : List V} {ds : List D}, Reps K ca W vs ds → Reps K ca W' vs ds
  | _, _, .nil => .nil
  | _, _, .cons r t => .cons (Rep.kw0 e r) (Reps.kw0 e t)
theorem RepF.kw0 (e : Kw W W') : ∀ {vs : List (Str × V)} {ds : Fs}, RepF K ca W vs ds → RepF K ca W' vs ds
  | _, _, .nil => .nil
  | _, _, .cons r t => .cons (Rep.kw0 e r) (RepF.kw0 e t)
end
theorem Rep.kw {v : V} {d : D} (r : Rep K ca W v d) (e : Kw W W') : Rep K ca W' v d := Rep.kw0 e r
theorem Reps.kw {v : List V} {d : List D} (r : Reps K ca W v d) (e : Kw W W') : Reps K ca W' v d := Reps.kw0 e r
theorem RepF.kw {v : List (Str × V)} {d : Fs} (r : RepF K ca W v d) (e : Kw W W') : RepF K ca W' v d := RepF.kw0 e r
theorem Rep.kp {v : V} {d : D} (r : Rep K ca W v d) (e : Kp W W') : Rep K ca W' v d := r.kw e.kw
theorem Reps.kp {v : List V} {d : List D} (r : Reps K ca W v d) (e : Kp W W') : Reps K ca W' v d := r.kw e.kw
theorem RepF.kp {v : List (Str × V)} {d : Fs} (r : RepF K ca W v d) (e : Kp W W') : RepF K ca W' v d := r.kw e.kw
theorem Kp.nav {W W' : Wd} (e : Kp W W') {p : Addr} {o : HO} (n : ¬ W.av p) (h : W.h p = some o) : ¬ W'.av p := e.kw.nav n h
theorem Rep.mono {v : V} {d : D} (r : Rep K ca W v d) (e : Ext W W') : Rep K ca W' v d := r.kp e.kp
theorem Reps.mono {v : List V} {d : List D} (r : Reps K ca W v d) (e : Ext W W') : Reps K ca W' v d := r.kp e.kp
theorem RepF.mono {v : List (Str × V)} {d : Fs} (r : RepF K ca W v d) (e : Ext W W') : RepF K ca W' v d := r.kp e.kp
theorem Reps.length : ∀ {vs : List V} {ds : List D}, Reps K ca W vs ds → vs.length = ds.length
  | _, _, .nil => rfl
  | _, _, .cons _ t => by rw [List.length_cons, List.length_cons, Reps.length t]
theorem Reps.get : ∀ {vs : List V} {ds : List D} {i : Nat} {d : D}, Reps K ca W vs ds → ds[i]? = some d → ∃ v, vs[i]? = some v ∧ Rep K ca W v d
  | _, _, _, _, .nil, h => by simp at h
  | _, _, 0, _, .cons r _, h => by simp at h; subst h; exact ⟨_, rfl, r⟩
  | _, _, i + 1, _, .cons _ t, h => by
    obtain ⟨v, h1, h2⟩ := Reps.get (i := i) t (by simpa using h)
    exact ⟨v, by simpa using h1, h2⟩
theorem Reps.getV : ∀ {vs : List V} {ds : List D} {i : Nat} {v : V}, Reps K ca W vs ds → vs[i]? = some v → ∃ d, ds[i]? = some d ∧ Rep K ca W v d
  | _, _, _, _, .nil, h => by simp at h
  | _, _, 0, _, .cons r _, h => by simp at h; subst h; exact ⟨_, rfl, r⟩
  | _, _, i + 1, _, .cons _ t, h => by
    obtain ⟨v, h1, h2⟩ := Reps.getV (i := i) t (by simpa using h)
    exact ⟨v, by simpa using h1, h2⟩
theorem Reps.append : ∀ {vs ws : List V} {ds es : List D}, Reps K ca W vs ds → Reps K ca W ws es → Reps K ca W (vs ++ ws) (ds ++ es)
  | _, _, _, _, .nil, s => s
  | _, _, _, _, .cons r t, s => .cons r (Reps.append t s)
theorem Reps.take : ∀ {vs : List V} {ds : List D} (n : Nat), Reps K ca W vs ds → Reps K ca W (vs.take n) (ds.take n)
  | _, _, 0, _ => .nil
  | _, _, _ + 1, .nil => .nil
  | _, _, n + 1, .cons r t => .cons r (Reps.take n t)
theorem Reps.drop : ∀ {vs : List V} {ds : List D} (n : Nat), Reps K ca W vs ds → Reps K ca W (vs.drop n) (ds.drop n)
  | _, _, 0, r => r
  | _, _, _ + 1, .nil => .nil
  | _, _, n + 1, .cons _ t => Reps.drop n t
theorem Reps.set {v : V} {d : D} (r : Rep K ca W v d) : ∀ {vs : List V} {ds : List D} (i : Nat), Reps K ca W vs ds → Reps K ca W (vs.set i v) (ds.set i d)
  | _, _, _, .nil => .nil
  | _, _, 0, .cons _ t => .cons r t
  | _, _, i + 1, .cons q t => .cons q (Reps.set r i t)
theorem Reps.reverse : ∀ {vs : List V} {ds : List D}, Reps K ca W vs ds → Reps K ca W vs.reverse ds.reverse
  | _, _, .nil => .nil
  | _, _, .cons r t => by
    rw [List.reverse_cons, List.reverse_cons]
    exact (Reps.reverse t).append (.cons r .nil)
theorem RepF.look : ∀ {vs : List (Str × V)} {ds : Fs} {f : Str} {d : D}, RepF K ca W vs ds → ds.lookup f = some d → ∃ v, vs.lookup f = some v ∧ Rep K ca W v d
  | _, _, _, _, .nil, h => by simp at h
  | _, _, f, d, .cons (f := g) r t, h => by
    rw [List.lookup_cons] at h ⊢
    cases e : f == g with
    | true => rw [e] at h; cases h; exact ⟨_, rfl, r⟩
    | false => rw [e] at h; exact RepF.look t h
theorem RepF.none : ∀ {vs : List (Str × V)} {ds : Fs} {f : Str}, RepF K ca W vs ds → ds.lookup f = Option.none → vs.lookup f = Option.none
  | _, _, _, .nil, _ => rfl
  | _, _, f, .cons (f := g) r t, h => by
    rw [List.lookup_cons] at h ⊢
    cases e : f == g with
    | true => rw [e] at h; cases h
    | false => rw [e] at h; exact RepF.none t h
theorem RepF.length : ∀ {vs : List (Str × V)} {ds : Fs}, RepF K ca W vs ds → vs.length = ds.length
  | _, _, .nil => rfl
  | _, _, .cons _ t => by rw [List.length_cons, List.length_cons, RepF.length t]
/-- a field stored -/
def put (f : Str) (d : D) : Fs → Fs
  | [] => [(f, d)]
  | (g, e) :: r => if g = f then (f, d) :: r else (g, e) :: put f d r
end
end Mi
/-! MiJudge: slots, results, what is wanted behind a piece, the judgements. -/
namespace Mi
open PySem PySem.Spec PyProof.Rows L2
theorem RepF.put {K : PySem.W.Frag} {ca : Nat → Addr} {W : Wd} {f : Str} {v : V} {d : D} (r : Rep K ca W v d) : ∀ {vs : List (Str × V)} {ds : Fs}, RepF K ca W vs ds → RepF K ca W (putF f v vs) (Mi.put f d ds)
  | _, _, .nil => .cons r .nil
  | _, _, .cons (f := g) q t => by
    unfold putF Mi.put
    by_cases e : g = f
    · rw [if_pos e, if_pos e, e]; exact .cons r t
    · rw [if_neg e, if_neg e]; exact .cons q (RepF.put r t)
/-- if, whose test no evaluation looks into -/
noncomputable def cif {α : Type} (p : Prop) (a b : α) : α := @ite α p (Classical.propDecidable p) a b
theorem cif_pos {α : Type} {p : Prop} {a b : α} (h : p) : cif p a b = a := by unfold cif; exact if_pos h
theorem cif_neg {α : Type} {p : Prop} {a b : α} (h : ¬ p) : cif p a b = b := by unfold cif; exact if_neg h
/-! ### slots -/
inductive Slot where
  | no | sh (d : D) | oL (ds : List D) | oI (c : Nat) (fs : Fs) | ex (c : Nat) (fs : Fs)
def Slot.isO : Slot → Bool
  | .oL _ => true
  | .oI _ _ => true
  | _ => false
abbrev En := List Slot
/-- slot i owns what lies at p -/
def Own (σ : L2.St) (env : En) (i : Nat) (p : Addr) : Prop := σ[i]? = some (some (.ref p)) ∧ ∃ s, env[i]? = some s ∧ s.isO = true
/-- .. an instance -/
def OwnI (σ : L2.St) (env : En) (i : Nat) (p : Addr) : Prop := σ[i]? = some (some (.ref p)) ∧ ∃ c fs, env[i]? = some (Slot.oI c fs)
/-- the exception that an except suite holds: its address, class, own dict -/
abbrev XC := Option (Addr × Value × Option Addr)
/-- the context of a judgement -/
structure Gx where
  X : Cx
  ca : Nat → Addr
  E : WX
  xc : XC
/-- what an exception bears -/
def RepX (K : PySem.W.Frag) (ca : Nat → Addr) (W : Wd) (fs : Fs) (d : Option Addr) : Prop :=
  (fs = [] ∧ d = none) ∨ ∃ p ws, d = some p ∧ ¬ W.av p ∧ W.h p = some (.xd ws) ∧ RepF K ca W ws fs
theorem RepX.kp {K : PySem.W.Frag} {ca : Nat → Addr} {W W' : Wd} {fs : Fs} {d : Option Addr} (r : RepX K ca W fs d) (e : Kp W W') : RepX K ca W' fs d := by
  rcases r with r | ⟨p, ws, h1, h2, h3, h4⟩
  · exact .inl r
  · exact .inr ⟨p, ws, h1, e.nav h2 h3, e.keep _ _ h2 h3, h4.kp e⟩
structure RepE (K : PySem.W.Frag) (ca : Nat → Addr) (xc : XC) (W : Wd) (σ : L2.St) (env : En) : Prop where
  len : σ.length = env.length
  sh : ∀ (i : Nat) (d : D), env[i]? = some (.sh d) → ∃ v, σ[i]? = some (some v) ∧ Rep K ca W v d
  oL : ∀ (i : Nat) (ds : List D), env[i]? = some (.oL ds) → ∃ p xs, σ[i]? = some (some (.ref p)) ∧ W.av p ∧ p ∉ W.g ∧ W.h p = some (.lst xs) ∧ Reps K ca W xs ds
  oI : ∀ (i c : Nat) (fs : Fs), env[i]? = some (.oI c fs) → ∃ p dx ws, σ[i]? = some (some (.ref p)) ∧ W.av p ∧ p ∉ W.g ∧ W.h p = some (.ins (ca c) dx ws) ∧ RepF K ca W ws fs
  ex : ∀ (i c : Nat) (fs : Fs), env[i]? = some (.ex c fs) → ∃ a d, xc = some (a, .ref (ca c), d) ∧ σ[i]? = some (some (.ref a)) ∧ RepX K ca W fs d
  sep : ∀ i j p, Own σ env i p → Own σ env j p → i = j
/-- a table of code objects -/
def CtabOk (W : Wd) (p : Addr) (q : Str) : Prop := ∃ ps : Array Value, W.h p = some (.tbl ps) ∧ TriplesOk ps.toList ∧ ∀ (pos : Pos) (cv : Value), codeAmong pos ps.toList = some cv → ∃ c, cv = .ref c ∧ ¬ W.av c ∧ W.h c = some (LamX.CodeO c q)
theorem CtabOk.kw {W W' : Wd} {p : Addr} {q : Str} (e : Kw W W') (hh : W'.h p = W.h p) (h : CtabOk W p q) : CtabOk W' p q := by
  obtain ⟨ps, h1, h2, h3⟩ := h
  refine ⟨ps, hh.trans h1, h2, fun pos cv hc => ?_⟩
  obtain ⟨c, e1, n, e2⟩ := h3 pos cv hc
  exact ⟨c, e1, e.nav n e2, e.keep c _ n e2⟩
/-- a cell's content -/
def CellOk (K : PySem.W.Frag) (ca : Nat → Addr) (W : Wd) (p : Addr) : Cl → Prop
  | .lst ds => ∃ xs, W.h p = some (.lst xs) ∧ Reps K ca W xs ds
  | .ins c gs => ∃ dx fs, W.h p = some (.ins (ca c) dx fs) ∧ RepF K ca W fs gs
  | .dk kvs => ∃ ws, W.h p = some (.dK ws) ∧ Paired (fun (a : Key × V) (b : Key × D) => a.1 = b.1 ∧ Rep K ca W a.2 b.2) ws kvs
  | .tab n q => p = ca n ∧ CtabOk W p q
structure WOk (K : PySem.W.Frag) (ca : Nat → Addr) (W : Wd) (st : Sto) : Prop where
  nd : W.g.Nodup
  len : W.g.length = st.length
  cell : ∀ (n : Nat) (p : Addr) (c : Cl), W.g[n]? = some p → st[n]? = some c → CellOk K ca W p c
/-! ### results -/
inductive Res (α : Type) where
  | ok (a : α) (st : Sto) | exc (c : Nat) (fs : Fs) (st : Sto) | bad
abbrev M (α : Type) := Sto → Res α
def Res.bind {α β : Type} (r : Res α) (f : α → M β) : Res β := match r with
  | .ok a st => f a st
  | .exc c fs st => .exc c fs st
  | .bad => .bad
inductive SRes where
  | nx (env : En) (st : Sto) | rt (d : D) (st : Sto) | bk (env : En) (st : Sto) | ct (env : En) (st : Sto) | exc (env : En) (c : Nat) (fs : Fs) (st : Sto) | bad
abbrev EM := En → M D
abbrev TM := En → M Bool
abbrev AM := En → M (List D)
abbrev SM := En → Sto → SRes
/-- an expression's result goes on as a statement's -/
def Res.go {α : Type} (r : Res α) (env : En) (f : α → Sto → SRes) : SRes := match r with
  | .ok a st => f a st
  | .exc c fs st => .exc env c fs st
  | .bad => .bad
/-! ### worlds behind statements -/
structure ExtS (W : Wd) (σ : L2.St) (env : En) (W' : Wd) (σ' : L2.St) (env' : En) : Prop where
  keep : ∀ p o, ¬ W.av p → W.h p = some o → W'.h p = some o
  own : ∀ p, W.av p → p ∉ W.g → (∀ i, ¬ Own σ env i p) → W'.h p = W.h p ∧ W'.av p
  new : ∀ p, W'.av p → W.av p ∨ W.h p = none
  stay : ∀ p, W'.h p = none → W.h p = none
  pre : ∃ l, W'.g = W.g ++ l ∧ ∀ p ∈ l, W.h p = none
  owns : ∀ i p, Own σ' env' i p → (∃ j, Own σ env j p) ∨ W.h p = none
  ownI : ∀ i p, OwnI σ' env' i p → ∃ j, OwnI σ env j p
theorem ExtS.kp {W W' : Wd} {σ σ' : L2.St} {env env' : En} (e : ExtS W σ env W' σ' env') : Kp W W' := ⟨e.keep, e.new, e.stay, e.pre⟩
theorem Ext.s {W W' : Wd} (e : Ext W W') (σ : L2.St) (env : En) : ExtS W σ env W' σ env :=
  ⟨e.keep, fun p h n _ => ⟨e.own p h n, e.av p h⟩, e.new, e.stay, e.pre, fun i p h => .inl ⟨i, h⟩, fun i p h => ⟨i, h⟩⟩
theorem ExtS.trans {W W1 W2 : Wd} {σ σ1 σ2 : L2.St} {env env1 env2 : En} (a : ExtS W σ env W1 σ1 env1) (b : ExtS W1 σ1 env1 W2 σ2 env2) : ExtS W σ env W2 σ2 env2 := by
  have k := a.kp.trans b.kp
  refine ⟨k.keep, fun p h n no => ?_, k.new, k.stay, k.pre, fun i p h => ?_, fun i p h => let ⟨j, h⟩ := b.ownI i p h; a.ownI j p h⟩
  · obtain ⟨h1, v1⟩ := a.own p h n no
    obtain ⟨h2, v2⟩ := b.own p v1 (a.kp.nocell h n) fun i z => by
      rcases a.owns i p z with ⟨j, z⟩ | z
      · exact no j z
      · exact W.trk p h z
    exact ⟨h2.trans h1, v2⟩
  · rcases b.owns i p h with ⟨j, z⟩ | z
    · exact a.owns j p z
    · exact .inr (a.stay p z)
/-- at a body's entry nothing is owned by a slot: behind it the world has grown -/
theorem ExtS.ext {W W' : Wd} {σ σ' : L2.St} {env env' : En} (e : ExtS W σ env W' σ' env') (no : ∀ i p, ¬ Own σ env i p) : Ext W W' :=
  ⟨e.keep, fun p h n => (e.own p h n fun i => no i p).1, fun p h => by
    by_cases n : p ∈ W.g
    · obtain ⟨l, q, _⟩ := e.pre
      exact W'.gav p (by rw [q]; exact List.mem_append_left _ n)
    · exact (e.own p h n fun i => no i p).2, e.new, e.stay, e.pre⟩
section
variable {K : PySem.W.Frag} {ca : Nat → Addr} {xc : XC} {W W' : Wd} {σ : L2.St} {env : En}
theorem RepE.mono (r : RepE K ca xc W σ env) (e : Ext W W') : RepE K ca xc W' σ env where
  len := r.len
  sh := fun i d h => let ⟨v, h1, h2⟩ := r.sh i d h; ⟨v, h1, h2.mono e⟩
  oL := fun i ds h => by
    obtain ⟨p, xs, h1, h2, h3, h4, h5⟩ := r.oL i ds h
    exact ⟨p, xs, h1, e.av p h2, e.kp.nocell h2 h3, (e.own p h2 h3).trans h4, h5.mono e⟩
  oI := fun i c fs h => by
    obtain ⟨p, dx, ws, h1, h2, h3, h4, h5⟩ := r.oI i c fs h
    exact ⟨p, dx, ws, h1, e.av p h2, e.kp.nocell h2 h3, (e.own p h2 h3).trans h4, h5.mono e⟩
  ex := fun i c fs h => by
    obtain ⟨a, d, h1, h2, h3⟩ := r.ex i c fs h
    exact ⟨a, d, h1, h2, h3.kp e.kp⟩
  sep := r.sep
end
/-! ### what is wanted behind -/
section
variable (G : Gx)
def Post (W : Wd) (σ : L2.St) (r : Res D) (Q : VK) : Prop := match r with
  | .ok d st => ∀ v W', Ext W W' → WOk G.X.K G.ca W' st → Rep G.X.K G.ca W' v d → Q v W'.h
  | .exc c fs st => ∀ dd W', Ext W W' → WOk G.X.K G.ca W' st → RepX G.X.K G.ca W' fs dd → G.E (.ref (G.ca c)) dd σ W'.h
  | .bad => False
def PostT (W : Wd) (σ : L2.St) (r : Res Bool) (Q : Bool → Hp → Prop) : Prop := match r with
  | .ok b st => ∀ W', Ext W W' → WOk G.X.K G.ca W' st → Q b W'.h
  | .exc c fs st => ∀ dd W', Ext W W' → WOk G.X.K G.ca W' st → RepX G.X.K G.ca W' fs dd → G.E (.ref (G.ca c)) dd σ W'.h
  | .bad => False
def PostA (W : Wd) (σ : L2.St) (r : Res (List D)) (Q : List V → Hp → Prop) : Prop := match r with
  | .ok ds st => ∀ vs W', Ext W W' → WOk G.X.K G.ca W' st → Reps G.X.K G.ca W' vs ds → Q vs W'.h
  | .exc c fs st => ∀ dd W', Ext W W' → WOk G.X.K G.ca W' st → RepX G.X.K G.ca W' fs dd → G.E (.ref (G.ca c)) dd σ W'.h
  | .bad => False
/-- a new list of these items, owned by none yet -/
def PostL (W : Wd) (σ : L2.St) (r : Res (List D)) (Q : VK) : Prop := match r with
  | .ok ds st => ∀ p xs W', Ext W W' → W.h p = none → W'.av p → p ∉ W'.g → W'.h p = some (.lst xs) → WOk G.X.K G.ca W' st → Reps G.X.K G.ca W' xs ds → Q (.ref p) W'.h
  | .exc c fs st => ∀ dd W', Ext W W' → WOk G.X.K G.ca W' st → RepX G.X.K G.ca W' fs dd → G.E (.ref (G.ca c)) dd σ W'.h
  | .bad => False
def PostS (W : Wd) (σ : L2.St) (env : En) (r : SRes) (Dn : Ends) : Prop := match r with
  | .nx env' st => ∀ σ' W', ExtS W σ env W' σ' env' → WOk G.X.K G.ca W' st → RepE G.X.K G.ca G.xc W' σ' env' → Dn.nx σ' W'.h
  | .bk env' st => ∀ σ' W', ExtS W σ env W' σ' env' → WOk G.X.K G.ca W' st → RepE G.X.K G.ca G.xc W' σ' env' → Dn.bk σ' W'.h
  | .ct env' st => ∀ σ' W', ExtS W σ env W' σ' env' → WOk G.X.K G.ca W' st → RepE G.X.K G.ca G.xc W' σ' env' → Dn.ct σ' W'.h
  | .rt d st => ∀ v W', ExtS W σ env W' [] [] → WOk G.X.K G.ca W' st → Rep G.X.K G.ca W' v d → Dn.rt v W'.h
  | .exc env' c fs st => ∀ σ' dd W', ExtS W σ env W' σ' env' → WOk G.X.K G.ca W' st → RepE G.X.K G.ca G.xc W' σ' env' → RepX G.X.K G.ca W' fs dd → G.E (.ref (G.ca c)) dd σ' W'.h
  | .bad => False
/-! ### what a piece of syntax must bring: the machine's own words -/
def QE (e : Expr) (σ : L2.St) (H : Hp) (Q : VK) : Prop := ∀ pins s, Inv G.X pins σ H s → wpAny (model G.X.prog G.X.w) G.X.A (eval e G.X.env) (EP G.X pins σ Q) G.X.xe s
def QT (e : Expr) (σ : L2.St) (H : Hp) (Q : Bool → Hp → Prop) : Prop := ∀ pins s, Inv G.X pins σ H s → wpAny (model G.X.prog G.X.w) G.X.A (isTrue e G.X.env (eval e G.X.env)) (TP G.X pins σ Q) G.X.xe s
def QW (e : Expr) (σ : L2.St) (H : Hp) (Q : Bool → Hp → Prop) : Prop := ∀ whole pins s, Inv G.X pins σ H s → wpAny (model G.X.prog G.X.w) G.X.A (isTrue e G.X.env whole) (TP G.X pins σ Q) G.X.xe s
def QA (es : List Expr) (σ : L2.St) (H : Hp) (Q : List V → Hp → Prop) : Prop := ∀ pos pins s, Inv G.X pins σ H s → wpAny (model G.X.prog G.X.w) G.X.A (spliced (backTo pos (starEach es G.X.env))) (AP G.X pins σ Q) G.X.xe s
def QS (st : Stmt) (Dn : Ends) (σ : L2.St) (H : Hp) : Prop := ∀ pins s, Inv G.X pins σ H s → wpAny (model G.X.prog G.X.w) G.X.A (exec st G.X.env) (SP G.X pins Dn) G.X.xe s
def QSs (st : List Stmt) (Dn : Ends) (σ : L2.St) (H : Hp) : Prop := ∀ pins s, Inv G.X pins σ H s → wpAny (model G.X.prog G.X.w) G.X.A (execs st G.X.env) (SP G.X pins Dn) G.X.xe s
def QI (tg iter : Expr) (σ : L2.St) (H : Hp) (R : It → Hp → Prop) : Prop := ∀ pins s, Inv G.X pins σ H s →
  wpAny (model G.X.prog G.X.w) G.X.A (eval iter G.X.env) (fun v s1 => wpAny (model G.X.prog G.X.w) G.X.A (pyIter v) (PIE G.X pins σ tg R) G.X.xe s1) G.X.xe s
/-- by values -/
def QO (f : Value → Value → Sem Value) (σ : L2.St) (x y : V) (H : Hp) (Q : VK) : Prop := ∀ pins s v u, Inv G.X pins σ H s → RelV x v → RelV y u → wpAny (model G.X.prog G.X.w) G.X.A (f v u) (EP G.X pins σ Q) G.X.xe s
def QU (f : Value → Sem Value) (σ : L2.St) (x : V) (H : Hp) (Q : VK) : Prop := ∀ pins s v, Inv G.X pins σ H s → RelV x v → wpAny (model G.X.prog G.X.w) G.X.A (f v) (EP G.X pins σ Q) G.X.xe s
def QC (f : Value) (σ : L2.St) (xs : List V) (H : Hp) (Q : VK) : Prop := ∀ pins s us, Inv G.X pins σ H s → Vals xs us → wpAny (model G.X.prog G.X.w) G.X.A (call f us) (EP G.X pins σ Q) G.X.xe s
def QTr (σ : L2.St) (x : V) (H : Hp) (Q : Bool → Hp → Prop) : Prop := ∀ pins s v, Inv G.X pins σ H s → RelV x v → wpAny (model G.X.prog G.X.w) G.X.A (truthy v) (TP G.X pins σ Q) G.X.xe s
end
section
variable {G : Gx} {e : Expr} {es : List Expr} {σ : L2.St} {H : Hp} {Q : VK} {st : Stmt} {sts : List Stmt}
theorem pe_q : PE G.X e (QE G e) := ⟨fun pins s _ _ _ I h => h pins s I⟩
theorem pt_q : PT G.X e (QT G e) := ⟨fun pins s _ _ _ I h => h pins s I⟩
theorem pw_q : PW G.X e (QW G e) := ⟨fun whole pins s _ _ _ I h => h whole pins s I⟩
theorem pa_q : PA G.X es (QA G es) := ⟨fun pos pins s _ _ _ I h => h pos pins s I⟩
theorem ps_q : PS G.X st (QS G st) := ⟨fun pins s _ _ _ I h => h pins s I⟩
theorem pss_q : PSs G.X sts (QSs G sts) := ⟨fun pins s _ _ _ I h => h pins s I⟩
theorem pi_q {tg iter : Expr} : PI G.X tg iter (QI G tg iter) := ⟨fun pins s _ _ _ I h => h pins s I⟩
theorem qe_of {t : TE} (h : PE G.X e t) (q : t σ H Q) : QE G e σ H Q := fun pins s I => h.run pins s σ H Q I q
theorem qt_of {t : TT} {Q : Bool → Hp → Prop} (h : PT G.X e t) (q : t σ H Q) : QT G e σ H Q := fun pins s I => h.run pins s σ H Q I q
theorem qw_of {t : TT} {Q : Bool → Hp → Prop} (h : PW G.X e t) (q : t σ H Q) : QW G e σ H Q := fun whole pins s I => h.run whole pins s σ H Q I q
theorem QW.t {Q : Bool → Hp → Prop} (h : QW G e σ H Q) : QT G e σ H Q := h _
theorem qa_of {t : TA} {Q : List V → Hp → Prop} (h : PA G.X es t) (q : t σ H Q) : QA G es σ H Q := fun pos pins s I => h.run pos pins s σ H Q I q
theorem qs_of {t : TS} {Dn : Ends} (h : PS G.X st t) (q : t Dn σ H) : QS G st Dn σ H := fun pins s I => h.run pins s σ H Dn I q
theorem qss_of {t : TS} {Dn : Ends} (h : PSs G.X sts t) (q : t Dn σ H) : QSs G sts Dn σ H := fun pins s I => h.run pins s σ H Dn I q
theorem qi_of {tg iter : Expr} {wi : TI} {R : It → Hp → Prop} (h : PI G.X tg iter wi) (q : wi σ H R) : QI G tg iter σ H R := fun pins s I => h.run pins s σ H R I q
theorem qo_of {f : Value → Value → Sem Value} {r : R2} {x y : V} (h : OpR G.X f r) (q : r x y H Q) : QO G f σ x y H Q := fun pins s v u I rx ry => h pins s σ H x y v u Q I rx ry q
theorem qu_of {f : Value → Sem Value} {r : V → Hp → VK → Prop} {x : V} (h : UnR G.X f r) (q : r x H Q) : QU G f σ x H Q := fun pins s v I rx => h pins s σ H x v Q I rx q
theorem qc_of {f : Value} {r : List V → Hp → VK → Prop} {xs : List V} (h : CallR G.X f r) (q : r xs H Q) : QC G f σ xs H Q := fun pins s us I rx => h pins s σ H xs us Q I rx q
theorem qtr_of {r : V → Hp → (Bool → Hp → Prop) → Prop} {x : V} {Q : Bool → Hp → Prop} (h : TruR G.X r) (q : r x H Q) : QTr G σ x H Q := fun pins s v I rx => h pins s σ H x v Q I rx q
theorem QE.mono {Q' : VK} (h : QE G e σ H Q) (k : ∀ v H', Q v H' → Q' v H') : QE G e σ H Q' := fun pins s I => thn (h pins s I) fun _ _ ⟨v, H', I', r, q⟩ => ⟨v, H', I', r, k v H' q⟩
end
/-! ### the judgements -/
section
variable (G : Gx)
def RE (e : Expr) (m : EM) : Prop := ∀ σ W env st Q, WOk G.X.K G.ca W st → RepE G.X.K G.ca G.xc W σ env → Post G W σ (m env st) Q → QE G e σ W.h Q
def RL (e : Expr) (m : AM) : Prop := ∀ σ W env st Q, WOk G.X.K G.ca W st → RepE G.X.K G.ca G.xc W σ env → PostL G W σ (m env st) Q → QE G e σ W.h Q
def RT (e : Expr) (m : TM) : Prop := ∀ σ W env st Q, WOk G.X.K G.ca W st → RepE G.X.K G.ca G.xc W σ env → PostT G W σ (m env st) Q → QT G e σ W.h Q
def RW (e : Expr) (m : TM) : Prop := ∀ σ W env st Q, WOk G.X.K G.ca W st → RepE G.X.K G.ca G.xc W σ env → PostT G W σ (m env st) Q → QW G e σ W.h Q
def RA (es : List Expr) (m : AM) : Prop := ∀ σ W env st Q, WOk G.X.K G.ca W st → RepE G.X.K G.ca G.xc W σ env → PostA G W σ (m env st) Q → QA G es σ W.h Q
def RS (s : Stmt) (m : SM) : Prop := ∀ σ W env st Dn, WOk G.X.K G.ca W st → RepE G.X.K G.ca G.xc W σ env → PostS G W σ env (m env st) Dn → QS G s Dn σ W.h
def RSs (s : List Stmt) (m : SM) : Prop := ∀ σ W env st Dn, WOk G.X.K G.ca W st → RepE G.X.K G.ca G.xc W σ env → PostS G W σ env (m env st) Dn → QSs G s Dn σ W.h
end
theorem RW.t {G : Gx} {e : Expr} {m : TM} (h : RW G e m) : RT G e m := fun σ W env st Q a b c => (h σ W env st Q a b c).t
/-! ### posts along a longer way -/
section
variable {G : Gx} {W W1 : Wd} {σ : L2.St} {Q : VK}
theorem Post.mono {r : Res D} (e : Ext W W1) (h : Post G W σ r Q) : Post G W1 σ r Q := by
  cases r with
  | ok d st => exact fun v W' x => h v W' (e.trans x)
  | exc c fs st => exact fun dd W' x => h dd W' (e.trans x)
  | bad => exact h
theorem PostT.mono {r : Res Bool} {Q : Bool → Hp → Prop} (e : Ext W W1) (h : PostT G W σ r Q) : PostT G W1 σ r Q := by
  cases r with
  | ok d st => exact fun W' x => h W' (e.trans x)
  | exc c fs st => exact fun dd W' x => h dd W' (e.trans x)
  | bad => exact h
theorem PostA.mono {r : Res (List D)} {Q : List V → Hp → Prop} (e : Ext W W1) (h : PostA G W σ r Q) : PostA G W1 σ r Q := by
  cases r with
  | ok d st => exact fun v W' x => h v W' (e.trans x)
  | exc c fs st => exact fun dd W' x => h dd W' (e.trans x)
  | bad => exact h
theorem PostL.mono {r : Res (List D)} (e : Ext W W1) (h : PostL G W σ r Q) : PostL G W1 σ r Q := by
  cases r with
  | ok d st => exact fun p xs W' x n => h p xs W' (e.trans x) (e.stay p n)
  | exc c fs st => exact fun dd W' x => h dd W' (e.trans x)
  | bad => exact h
theorem PostS.mono {σ1 : L2.St} {env env1 : En} {r : SRes} {Dn : Ends} (e : ExtS W σ env W1 σ1 env1) (h : PostS G W σ env r Dn) : PostS G W1 σ1 env1 r Dn := by
  cases r with
  | nx env' st => exact fun σ' W' x => h σ' W' (e.trans x)
  | bk env' st => exact fun σ' W' x => h σ' W' (e.trans x)
  | ct env' st => exact fun σ' W' x => h σ' W' (e.trans x)
  | rt d st => exact fun v W' x => h v W' (e.trans x)
  | exc env' c fs st => exact fun σ' dd W' x => h σ' dd W' (e.trans x)
  | bad => exact h
end
end Mi
/-! MiStar: looks at syntax that cost nothing. -/
namespace Mi
open PySem PySem.Spec PyProof.Rows L2
/-- no starred item -/
def nst : Expr → Bool
  | .Starred _ _ => false
  | _ => true
theorem starEach_ns {e : Expr} {es : List Expr} {env : Env} (h : nst e = true) : starEach (e :: es) env = (false, eval e env) :: starEach es env := by
  cases e <;> first | rfl | cases h
theorem star2_ns {a b : Expr} {env : Env} (h : nst a = true) (k : nst b = true) : starEach [a, b] env = [(false, eval a env), (false, eval b env)] := by
  rw [starEach_ns h, starEach_ns k]; rfl
theorem star_fst {env : Env} : ∀ {es : List Expr}, es.all nst = true → ∀ x ∈ starEach es env, x.1 = false
  | [], _, x, hx => by simp [starEach] at hx
  | e :: es, h, x, hx => by
    simp only [List.all_cons, Bool.and_eq_true] at h
    rw [starEach_ns h.1] at hx
    rcases List.mem_cons.mp hx with rfl | hx
    · rfl
    · exact star_fst h.2 x hx
theorem plain_ns {es : List Expr} {env : Env} {pos : Pos} (h : es.all nst = true) : (backTo pos (starEach es env)).any (·.1) = false := by
  rw [List.any_eq_false]
  intro x hx
  obtain ⟨y, hy, rfl⟩ := List.mem_map.mp hx
  simp [star_fst h y hy]
theorem few_ns {e : Expr} {es : List Expr} {env : Env} {pos : Pos} (h : (e :: es).all nst = true) (hl : decide ((e :: es).length < 30) = true) :
    ((backTo pos (starEach (e :: es) env)).all (fun x => !x.1) && (backToKw pos (keywordEach [] env)).all (fun x => x.1.isSome) && decide ((e :: es).length + ([] : List Keyword).length + (if ([] : List Keyword).isEmpty then 0 else 1) < 30)) = true := by
  simp only [Bool.and_eq_true]
  refine ⟨⟨?_, rfl⟩, ?_⟩
  · rw [List.all_eq_true]
    intro x hx
    obtain ⟨y, hy, rfl⟩ := List.mem_map.mp hx
    simp [star_fst h y hy]
  · simpa using hl
/-- not a call without arguments -/
def nsup : Expr → Bool
  | .Call (.Name _ _) [] [] _ => false
  | _ => true
theorem abase_ns {o : Expr} {f : Str} {env : Env} {w : Sem Value} (h : nsup o = true) : attributeBase o f env w = w := by
  unfold attributeBase
  split
  · cases h
  · rfl
/-- no comprehension -/
def ncmp : Expr → Bool
  | .ListComp .. => false
  | .SetComp .. => false
  | .DictComp .. => false
  | _ => true
theorem swaps_ns {e : Expr} {t : Option Expr} {n : Nat} {env : Env} (h : ncmp e = true) : swapsWith e t n env = pure false := by
  cases e <;> first | rfl | cases h
def nset : Expr → Bool
  | .Set .. => false
  | _ => true
theorem fold_ns {e : Expr} {env : Env} (h : nset e = true) : ∀ x, foldedSetIterable e env x = pure x := by
  intro x
  cases e <;> first | rfl | cases h
theorem asg_ns {e : Expr} {es : List Expr} {env : Env} (h : nst e = true) : (assignEach (e :: es) env).map (·.2) = assign e env :: (assignEach es env).map (·.2) := by
  cases e <;> first | rfl | cases h
theorem asg_fst {env : Env} : ∀ {es : List Expr}, es.all nst = true → ∀ x ∈ assignEach es env, x.1 = false
  | [], _, x, hx => by simp [assignEach] at hx
  | e :: es, h, x, hx => by
    simp only [List.all_cons, Bool.and_eq_true] at h
    have e1 : assignEach (e :: es) env = (false, assign e env) :: assignEach es env := by
      have := h.1
      cases e <;> first | rfl | cases this
    rw [e1] at hx
    rcases List.mem_cons.mp hx with rfl | hx
    · rfl
    · exact asg_fst h.2 x hx
theorem asg_len {env : Env} : ∀ {es : List Expr} {n : Nat}, es.length = n → (assignEach es env).length = n
  | [], _, h => h
  | e :: es, 0, h => by cases h
  | e :: es, n + 1, h => by
    have := asg_len (env := env) (es := es) (n := n) (by simpa using h)
    have e1 : (assignEach (e :: es) env).length = (assignEach es env).length + 1 := by cases e <;> rfl
    rw [e1, this]
theorem asg_find {env : Env} {es : List Expr} (h : es.all nst = true) : (assignEach es env).findIdx? (·.1) = none := by
  rw [List.findIdx?_eq_none_iff]
  exact fun x hx => asg_fst h x hx
end Mi
/-! MiRules: one rule a construct. -/
namespace Mi
open PySem PySem.Spec PyProof.Rows L2
section
variable {G : Gx} {W : Wd} {σ : L2.St}
theorem bindEE {r : Res D} {f : D → M D} {Q : VK} {Q1 : VK} (h : Post G W σ (r.bind f) Q) (k : ∀ (d : D) (s1 : Sto) (v : V) (W2 : Wd), Ext W W2 → WOk G.X.K G.ca W2 s1 → Rep G.X.K G.ca W2 v d → Post G W2 σ (f d s1) Q → Q1 v W2.h) : Post G W σ r Q1 := by
  cases r with
  | ok d s1 => exact fun v W2 e w r => k d s1 v W2 e w r (Post.mono e h)
  | exc c fs s1 => exact h
  | bad => exact h
theorem bindET {r : Res D} {f : D → M Bool} {Q : (Bool → Hp → Prop)} {Q1 : VK} (h : PostT G W σ (r.bind f) Q) (k : ∀ (d : D) (s1 : Sto) (v : V) (W2 : Wd), Ext W W2 → WOk G.X.K G.ca W2 s1 → Rep G.X.K G.ca W2 v d → PostT G W2 σ (f d s1) Q → Q1 v W2.h) : Post G W σ r Q1 := by
  cases r with
  | ok d s1 => exact fun v W2 e w r => k d s1 v W2 e w r (PostT.mono e h)
  | exc c fs s1 => exact h
  | bad => exact h
theorem bindEA {r : Res D} {f : D → M (List D)} {Q : (List V → Hp → Prop)} {Q1 : VK} (h : PostA G W σ (r.bind f) Q) (k : ∀ (d : D) (s1 : Sto) (v : V) (W2 : Wd), Ext W W2 → WOk G.X.K G.ca W2 s1 → Rep G.X.K G.ca W2 v d → PostA G W2 σ (f d s1) Q → Q1 v W2.h) : Post G W σ r Q1 := by
  cases r with
  | ok d s1 => exact fun v W2 e w r => k d s1 v W2 e w r (PostA.mono e h)
  | exc c fs s1 => exact h
  | bad => exact h
theorem bindEL {r : Res D} {f : D → M (List D)} {Q : VK} {Q1 : VK} (h : PostL G W σ (r.bind f) Q) (k : ∀ (d : D) (s1 : Sto) (v : V) (W2 : Wd), Ext W W2 → WOk G.X.K G.ca W2 s1 → Rep G.X.K G.ca W2 v d → PostL G W2 σ (f d s1) Q → Q1 v W2.h) : Post G W σ r Q1 := by
  cases r with
  | ok d s1 => exact fun v W2 e w r => k d s1 v W2 e w r (PostL.mono e h)
  | exc c fs s1 => exact h
  | bad => exact h
theorem bindES {r : Res D} {f : D → Sto → SRes} {env : En} {Dn : Ends} {Q1 : VK} (re : RepE G.X.K G.ca G.xc W σ env) (h : PostS G W σ env (r.go env f) Dn) (k : ∀ (d : D) (s1 : Sto) (v : V) (W2 : Wd), Ext W W2 → WOk G.X.K G.ca W2 s1 → Rep G.X.K G.ca W2 v d → RepE G.X.K G.ca G.xc W2 σ env → PostS G W2 σ env (f d s1) Dn → Q1 v W2.h) : Post G W σ r Q1 := by
  cases r with
  | ok d s1 => exact fun v W2 e w r => k d s1 v W2 e w r (re.mono e) (PostS.mono (e.s σ env) h)
  | exc c fs s1 => exact fun dd W2 e w x => h σ dd W2 (e.s σ env) w (re.mono e) x
  | bad => exact h
theorem bindTE {r : Res Bool} {f : Bool → M D} {Q : VK} {Q1 : Bool → Hp → Prop} (h : Post G W σ (r.bind f) Q) (k : ∀ (d : Bool) (s1 : Sto) (W2 : Wd), Ext W W2 → WOk G.X.K G.ca W2 s1 → Post G W2 σ (f d s1) Q → Q1 d W2.h) : PostT G W σ r Q1 := by
  cases r with
  | ok d s1 => exact fun W2 e w => k d s1 W2 e w (Post.mono e h)
  | exc c fs s1 => exact h
  | bad => exact h
theorem bindTT {r : Res Bool} {f : Bool → M Bool} {Q : (Bool → Hp → Prop)} {Q1 : Bool → Hp → Prop} (h : PostT G W σ (r.bind f) Q) (k : ∀ (d : Bool) (s1 : Sto) (W2 : Wd), Ext W W2 → WOk G.X.K G.ca W2 s1 → PostT G W2 σ (f d s1) Q → Q1 d W2.h) : PostT G W σ r Q1 := by
  cases r with
  | ok d s1 => exact fun W2 e w => k d s1 W2 e w (PostT.mono e h)
  | exc c fs s1 => exact h
  | bad => exact h
theorem bindTA {r : Res Bool} {f : Bool → M (List D)} {Q : (List V → Hp → Prop)} {Q1 : Bool → Hp → Prop} (h : PostA G W σ (r.bind f) Q) (k : ∀ (d : Bool) (s1 : Sto) (W2 : Wd), Ext W W2 → WOk G.X.K G.ca W2 s1 → PostA G W2 σ (f d s1) Q → Q1 d W2.h) : PostT G W σ r Q1 := by
  cases r with
  | ok d s1 => exact fun W2 e w => k d s1 W2 e w (PostA.mono e h)
  | exc c fs s1 => exact h
  | bad => exact h
theorem bindTL {r : Res Bool} {f : Bool → M (List D)} {Q : VK} {Q1 : Bool → Hp → Prop} (h : PostL G W σ (r.bind f) Q) (k : ∀ (d : Bool) (s1 : Sto) (W2 : Wd), Ext W W2 → WOk G.X.K G.ca W2 s1 → PostL G W2 σ (f d s1) Q → Q1 d W2.h) : PostT G W σ r Q1 := by
  cases r with
  | ok d s1 => exact fun W2 e w => k d s1 W2 e w (PostL.mono e h)
  | exc c fs s1 => exact h
  | bad => exact h
theorem bindTS {r : Res Bool} {f : Bool → Sto → SRes} {env : En} {Dn : Ends} {Q1 : Bool → Hp → Prop} (re : RepE G.X.K G.ca G.xc W σ env) (h : PostS G W σ env (r.go env f) Dn) (k : ∀ (d : Bool) (s1 : Sto) (W2 : Wd), Ext W W2 → WOk G.X.K G.ca W2 s1 → RepE G.X.K G.ca G.xc W2 σ env → PostS G W2 σ env (f d s1) Dn → Q1 d W2.h) : PostT G W σ r Q1 := by
  cases r with
  | ok d s1 => exact fun W2 e w => k d s1 W2 e w (re.mono e) (PostS.mono (e.s σ env) h)
  | exc c fs s1 => exact fun dd W2 e w x => h σ dd W2 (e.s σ env) w (re.mono e) x
  | bad => exact h
theorem bindAE {r : Res (List D)} {f : (List D) → M D} {Q : VK} {Q1 : List V → Hp → Prop} (h : Post G W σ (r.bind f) Q) (k : ∀ (d : (List D)) (s1 : Sto) (v : List V) (W2 : Wd), Ext W W2 → WOk G.X.K G.ca W2 s1 → Reps G.X.K G.ca W2 v d → Post G W2 σ (f d s1) Q → Q1 v W2.h) : PostA G W σ r Q1 := by
  cases r with
  | ok d s1 => exact fun v W2 e w r => k d s1 v W2 e w r (Post.mono e h)
  | exc c fs s1 => exact h
  | bad => exact h
theorem bindAT {r : Res (List D)} {f : (List D) → M Bool} {Q : (Bool → Hp → Prop)} {Q1 : List V → Hp → Prop} (h : PostT G W σ (r.bind f) Q) (k : ∀ (d : (List D)) (s1 : Sto) (v : List V) (W2 : Wd), Ext W W2 → WOk G.X.K G.ca W2 s1 → Reps G.X.K G.ca W2 v d → PostT G W2 σ (f d s1) Q → Q1 v W2.h) : PostA G W σ r Q1 := by
  cases r with
  | ok d s1 => exact fun v W2 e w r => k d s1 v W2 e w r (PostT.mono e h)
  | exc c fs s1 => exact h
  | bad => exact h
theorem bindAA {r : Res (List D)} {f : (List D) → M (List D)} {Q : (List V → Hp → Prop)} {Q1 : List V → Hp → Prop} (h : PostA G W σ (r.bind f) Q) (k : ∀ (d : (List D)) (s1 : Sto) (v : List V) (W2 : Wd), Ext W W2 → WOk G.X.K G.ca W2 s1 → Reps G.X.K G.ca W2 v d → PostA G W2 σ (f d s1) Q → Q1 v W2.h) : PostA G W σ r Q1 := by
  cases r with
  | ok d s1 => exact fun v W2 e w r => k d s1 v W2 e w r (PostA.mono e h)
  | exc c fs s1 => exact h
  | bad => exact h
theorem bindAL {r : Res (List D)} {f : (List D) → M (List D)} {Q : VK} {Q1 : List V → Hp → Prop} (h : PostL G W σ (r.bind f) Q) (k : ∀ (d : (List D)) (s1 : Sto) (v : List V) (W2 : Wd), Ext W W2 → WOk G.X.K G.ca W2 s1 → Reps G.X.K G.ca W2 v d → PostL G W2 σ (f d s1) Q → Q1 v W2.h) : PostA G W σ r Q1 := by
  cases r with
  | ok d s1 => exact fun v W2 e w r => k d s1 v W2 e w r (PostL.mono e h)
  | exc c fs s1 => exact h
  | bad => exact h
theorem bindAS {r : Res (List D)} {f : (List D) → Sto → SRes} {env : En} {Dn : Ends} {Q1 : List V → Hp → Prop} (re : RepE G.X.K G.ca G.xc W σ env) (h : PostS G W σ env (r.go env f) Dn) (k : ∀ (d : (List D)) (s1 : Sto) (v : List V) (W2 : Wd), Ext W W2 → WOk G.X.K G.ca W2 s1 → Reps G.X.K G.ca W2 v d → RepE G.X.K G.ca G.xc W2 σ env → PostS G W2 σ env (f d s1) Dn → Q1 v W2.h) : PostA G W σ r Q1 := by
  cases r with
  | ok d s1 => exact fun v W2 e w r => k d s1 v W2 e w r (re.mono e) (PostS.mono (e.s σ env) h)
  | exc c fs s1 => exact fun dd W2 e w x => h σ dd W2 (e.s σ env) w (re.mono e) x
  | bad => exact h
end
/-! ### names, constants -/
def eVar (i : Nat) : EM := fun env st => match env[i]? with
  | some (.sh d) => .ok d st
  | _ => .bad
def eC (d : D) : EM := fun _ st => .ok d st
section
variable {G : Gx} {e a b c : Expr} {es : List Expr} {pos : Pos}
theorem re_var {i : Nat} (h : PE G.X e (tVar i)) : RE G e (eVar i) := by
  intro σ W env st Q w re p
  refine qe_of h ?_
  unfold eVar at p
  split at p
  · rename_i d hd
    obtain ⟨v, h1, h2⟩ := re.sh i d hd
    exact ⟨v, h1, p v W (Ext.refl W) w h2⟩
  · exact p.elim
theorem re_c {v : V} {d : D} (h : PE G.X e (tC v)) (r : ∀ W, Rep G.X.K G.ca W v d) : RE G e (eC d) := by
  intro σ W env st Q w re p
  exact qe_of h (p v W (Ext.refl W) w (r W))
theorem re_int {i : Int} {j : Nat} : RE G (.Constant (.int i) j pos) (eC (.int i)) := re_c pe_int fun _ => .int i
theorem re_bl {b : Bool} {j : Nat} : RE G (.Constant (.bool b) j pos) (eC (.bl b)) := re_c pe_bl fun _ => .bl b
theorem re_non {j : Nat} : RE G (.Constant .none j pos) (eC .non) := re_c pe_non fun _ => .non
theorem re_str {x : Str} {j : Nat} : RE G (.Constant (.str x) j pos) (eC (.str x)) := re_c pe_str fun _ => .str x
/-! ### operators, by values -/
def OpD (G : Gx) (fv : Value → Value → Sem Value) (f : D → D → M D) : Prop := ∀ σ W st x y dx dy Q, WOk G.X.K G.ca W st → Rep G.X.K G.ca W x dx → Rep G.X.K G.ca W y dy → Post G W σ (f dx dy st) Q → QO G fv σ x y W.h Q
def UnD (G : Gx) (fv : Value → Sem Value) (f : D → M D) : Prop := ∀ σ W st x dx Q, WOk G.X.K G.ca W st → Rep G.X.K G.ca W x dx → Post G W σ (f dx st) Q → QU G fv σ x W.h Q
def TrD (G : Gx) (f : D → M Bool) : Prop := ∀ σ W st x dx Q, WOk G.X.K G.ca W st → Rep G.X.K G.ca W x dx → PostT G W σ (f dx st) Q → QTr G σ x W.h Q
def CallD (G : Gx) (fv : Value) (f : List D → M D) : Prop := ∀ σ W st xs ds Q, WOk G.X.K G.ca W st → Reps G.X.K G.ca W xs ds → Post G W σ (f ds st) Q → QC G fv σ xs W.h Q
def eOp (f : D → D → M D) (a b : EM) : EM := fun env st => (a env st).bind fun x s1 => (b env s1).bind fun y s2 => f x y s2
def eUn (f : D → M D) (a : EM) : EM := fun env st => (a env st).bind f
variable {ma mb mc : EM} {f : D → D → M D}
/-- two operands, then something by their values -/
theorem two {R : V → V → Hp → Prop} {σ : L2.St} {W : Wd} {env : En} {st : Sto} {Q : VK} (ha : RE G a ma) (hb : RE G b mb) (w : WOk G.X.K G.ca W st) (re : RepE G.X.K G.ca G.xc W σ env) (p : Post G W σ (eOp f ma mb env st) Q)
    (k : ∀ x y dx dy W2 s2, WOk G.X.K G.ca W2 s2 → Rep G.X.K G.ca W2 x dx → Rep G.X.K G.ca W2 y dy → Post G W2 σ (f dx dy s2) Q → R x y W2.h) :
    QE G a σ W.h fun x H1 => QE G b σ H1 fun y H2 => R x y H2 := by
  refine ha σ W env st _ w re (bindEE p fun dx s1 x W1 e1 w1 r1 p1 => ?_)
  refine hb σ W1 env s1 _ w1 (re.mono e1) (bindEE p1 fun dy s2 y W2 e2 w2 r2 p2 => ?_)
  exact k x y dx dy W2 s2 w2 (r1.mono e2) r2 p2
theorem two_run {R : V → V → Hp → Prop} {σ : L2.St} {H : Hp} (h : QE G a σ H fun x H1 => QE G b σ H1 fun y H2 => R x y H2) {pins : List (Addr × Obj)} {s : Shared} (I : Inv G.X pins σ H s) {α : Type} {fv : Value → Value → Sem α} {Q : α → Shared → Prop}
    (k : ∀ v u s2 x y H2, Inv G.X pins σ H2 s2 → RelV x v → RelV y u → R x y H2 → wpAny (model G.X.prog G.X.w) G.X.A (fv v u) Q G.X.xe s2) :
    wpAny (model G.X.prog G.X.w) G.X.A (eval a G.X.env) (fun v s₁ => wpAny (model G.X.prog G.X.w) G.X.A (eval b G.X.env) (fun u s₂ => wpAny (model G.X.prog G.X.w) G.X.A (fv v u) Q G.X.xe s₂) G.X.xe s₁) G.X.xe s := by
  refine thn (h pins s I) fun v s1 hv => ?_
  obtain ⟨x, H1, I1, r1, q1⟩ := hv
  refine thn (q1 pins s1 I1) fun u s2 hu => ?_
  obtain ⟨y, H2, I2, r2, q2⟩ := hu
  exact k v u s2 x y H2 I2 r1 r2 q2
theorem re_bin {op : Operator} (ho : OpD G (binaryOp op) f) (ha : RE G a ma) (hb : RE G b mb) : RE G (.BinOp a op b pos) (eOp f ma mb) := by
  intro σ W env st Q w re p pins s I
  refine wpAny_BinOp (two_run (R := fun x y H => QO G (binaryOp op) σ x y H Q) (two ha hb w re p fun x y dx dy W2 s2 w2 r1 r2 p2 => ho σ W2 s2 x y dx dy Q w2 r1 r2 p2) I fun v u s2 x y H2 I2 rx ry q => ?_)
  exact q pins s2 v u I2 rx ry
theorem re_cmp {op : CmpOp} (ho : OpD G (compareOp op) f) (ha : RE G a ma) (hb : RE G b mb) (hm : behindInMarks op b = false := by first | exact nomark _ | rfl) : RE G (.Compare a [op] [b] pos) (eOp f ma mb) := by
  intro σ W env st Q w re p pins s I
  refine wpAny_Compare1 (two_run (R := fun x y H => QO G (compareOp op) σ x y H Q) (two ha hb w re p fun x y dx dy W2 s2 w2 r1 r2 p2 => ho σ W2 s2 x y dx dy Q w2 r1 r2 p2) I fun v u s2 x y H2 I2 rx ry q => ?_) hm
  exact q pins s2 v u I2 rx ry
theorem re_un {op : UnaryOp} {f : D → M D} (ho : UnD G (unaryOp op) f) (ha : RE G a ma) : RE G (.UnaryOp op a pos) (eUn f ma) := by
  intro σ W env st Q w re p pins s I
  refine UnaryOp_ (thn (ha σ W env st (fun x H => QU G (unaryOp op) σ x H Q) w re (bindEE p fun dx s1 x W1 e1 w1 r1 p1 => ho σ W1 s1 x dx Q w1 r1 p1) pins s I) fun v s1 hv => ?_)
  obtain ⟨x, H1, I1, r1, q1⟩ := hv
  exact q1 pins s1 v I1 r1
/-! ### tests -/
def tVal (t : D → M Bool) (a : EM) : TM := fun env st => (a env st).bind t
def tNotM (a : TM) : TM := fun env st => (a env st).bind fun b s => .ok (!b) s
def tAndM (a b : TM) : TM := fun env st => (a env st).bind fun x s => if x = true then b env s else .ok false s
def tOrM (a b : TM) : TM := fun env st => (a env st).bind fun x s => if x = true then .ok true s else b env s
variable {ta tb : TM} {t : D → M Bool}
/-- the truth of a plain expression's value -/
theorem rt_val (ht : TrD G t) (ha : RE G a ma) (he : ∀ whole, isTrue a G.X.env whole = (do let v ← whole; standAt a.pos; holding [v] (truthy v)) := by intro _; rfl) : RT G a (tVal t ma) := by
  intro σ W env st Q w re p pins s I
  refine isTrue_plain (thn (ha σ W env st (fun x H => QTr G σ x H Q) w re (bindET p fun dx s1 x W1 e1 w1 r1 p1 => ht σ W1 s1 x dx Q w1 r1 p1) pins s I) fun v s1 hv => ?_) (he _)
  obtain ⟨x, H1, I1, r1, q1⟩ := hv
  exact q1 pins s1 v I1 r1
/-- a comparison as a test -/
theorem rt_cmp {op : CmpOp} (ht : TrD G t) (ho : OpD G (compareOp op) f) (ha : RE G a ma) (hb : RE G b mb) (hm : behindInMarks op b = false := by first | exact nomark _ | rfl) : RT G (.Compare a [op] [b] pos) (tVal t (eOp f ma mb)) := by
  intro σ W env st Q w re p pins s I
  have p' : Post G W σ (eOp f ma mb env st) (fun x H => QTr G σ x H Q) := bindET p fun dx s1 x W1 e1 w1 r1 p1 => ht σ W1 s1 x dx Q w1 r1 p1
  refine wpAny_isTrue_Compare1 (two_run (R := fun x y H => QO G (compareOp op) σ x y H (fun x H => QTr G σ x H Q)) (two ha hb w re p' fun x y dx dy W2 s2 w2 r1 r2 p2 => ho σ W2 s2 x y dx dy _ w2 r1 r2 p2) I fun v u s2 x y H2 I2 rx ry q => ?_) hm
  refine thn (q pins s2 v u I2 rx ry) fun c s3 hc => ?_
  obtain ⟨z, H3, I3, r3, q3⟩ := hc
  exact q3 pins s3 c I3 r3
theorem rt_not (ha : RT G a ta) : RT G (.UnaryOp .Not a pos) (tNotM ta) := by
  intro σ W env st Q w re p
  refine qt_of (pt_not pt_q) ?_
  exact ha σ W env st _ w re (bindTT p fun x s1 W1 e1 w1 p1 => p1 W1 (Ext.refl W1) w1)
theorem rw_and1 (ha : RT G a ta) : RW G (.BoolOp .And [a] pos) ta := by
  intro σ W env st Q w re p
  exact qw_of (pw_and1 pt_q) (ha σ W env st _ w re p)
theorem rw_or1 (ha : RT G a ta) : RW G (.BoolOp .Or [a] pos) ta := by
  intro σ W env st Q w re p
  exact qw_of (pw_or1 pt_q) (ha σ W env st _ w re p)
theorem rw_and {rest : List Expr} (ha : RT G a ta) (hb : RW G (.BoolOp .And (b :: rest) pos) tb) : RW G (.BoolOp .And (a :: b :: rest) pos) (tAndM ta tb) := by
  intro σ W env st Q w re p
  refine qw_of (pw_and pt_q pw_q) ?_
  refine ha σ W env st _ w re (bindTT p fun x s1 W1 e1 w1 p1 => ?_)
  cases x with
  | true => rw [if_pos rfl] at p1 ⊢; exact hb σ W1 env s1 Q w1 (re.mono e1) p1
  | false => rw [if_neg Bool.false_ne_true] at p1 ⊢; exact p1 W1 (Ext.refl W1) w1
theorem rw_or {rest : List Expr} (ha : RT G a ta) (hb : RW G (.BoolOp .Or (b :: rest) pos) tb) : RW G (.BoolOp .Or (a :: b :: rest) pos) (tOrM ta tb) := by
  intro σ W env st Q w re p
  refine qw_of (pw_or pt_q pw_q) ?_
  refine ha σ W env st _ w re (bindTT p fun x s1 W1 e1 w1 p1 => ?_)
  cases x with
  | true => rw [if_pos rfl] at p1 ⊢; exact p1 W1 (Ext.refl W1) w1
  | false => rw [if_neg Bool.false_ne_true] at p1 ⊢; exact hb σ W1 env s1 Q w1 (re.mono e1) p1
/-! ### and, or, not, if-else as values -/
def eAnd (t : D → M Bool) (a b : EM) : EM := fun env st => (a env st).bind fun x s => (t x s).bind fun k s2 => if k = true then b env s2 else .ok x s2
def eOr (t : D → M Bool) (a b : EM) : EM := fun env st => (a env st).bind fun x s => (t x s).bind fun k s2 => if k = true then .ok x s2 else b env s2
def eNot (t : D → M Bool) (a : EM) : EM := fun env st => (a env st).bind fun x s => (t x s).bind fun k s2 => .ok (.bl (!k)) s2
def eIf (c : TM) (a b : EM) : EM := fun env st => (c env st).bind fun k s => if k = true then a env s else b env s
theorem re_one {op : BoolOp} (ha : RE G a ma) : RE G (.BoolOp op [a] pos) ma := by
  intro σ W env st Q w re p
  exact qe_of (pe_one pe_q) (ha σ W env st Q w re p)
theorem re_and {rest : List Expr} (ht : TrD G t) (ha : RE G a ma) (hb : RE G (.BoolOp .And (b :: rest) pos) mb) : RE G (.BoolOp .And (a :: b :: rest) pos) (eAnd t ma mb) := by
  intro σ W env st Q w re p pins s I
  refine BoolOp_and (thn (ha σ W env st (fun x H => QTr G σ x H fun k H2 => if k = true then QE G (.BoolOp .And (b :: rest) pos) σ H2 Q else Q x H2) w re (bindEE p fun dx s1 x W1 e1 w1 r1 p1 => ?_) pins s I) fun v s1 hv => ?_)
  · refine ht σ W1 s1 x dx _ w1 r1 (bindTE p1 fun k s2 W2 e2 w2 p2 => ?_)
    cases k with
    | true => rw [if_pos rfl] at p2 ⊢; exact hb σ W2 env s2 Q w2 ((re.mono e1).mono e2) p2
    | false => rw [if_neg Bool.false_ne_true] at p2 ⊢; exact p2 x W2 (Ext.refl W2) w2 (r1.mono e2)
  · obtain ⟨x, H1, I1, r1, q1⟩ := hv
    refine thn (q1 pins s1 v I1 r1) fun k s2 hk => ?_
    obtain ⟨H2, I2, q2⟩ := hk
    cases k with
    | true => rw [if_pos rfl] at q2; exact q2 pins s2 I2
    | false => rw [if_neg Bool.false_ne_true] at q2; exact ⟨x, H2, I2, r1, q2⟩
theorem re_or {rest : List Expr} (ht : TrD G t) (ha : RE G a ma) (hb : RE G (.BoolOp .Or (b :: rest) pos) mb) : RE G (.BoolOp .Or (a :: b :: rest) pos) (eOr t ma mb) := by
  intro σ W env st Q w re p pins s I
  refine BoolOp_or (thn (ha σ W env st (fun x H => QTr G σ x H fun k H2 => if k = true then Q x H2 else QE G (.BoolOp .Or (b :: rest) pos) σ H2 Q) w re (bindEE p fun dx s1 x W1 e1 w1 r1 p1 => ?_) pins s I) fun v s1 hv => ?_)
  · refine ht σ W1 s1 x dx _ w1 r1 (bindTE p1 fun k s2 W2 e2 w2 p2 => ?_)
    cases k with
    | true => rw [if_pos rfl] at p2 ⊢; exact p2 x W2 (Ext.refl W2) w2 (r1.mono e2)
    | false => rw [if_neg Bool.false_ne_true] at p2 ⊢; exact hb σ W2 env s2 Q w2 ((re.mono e1).mono e2) p2
  · obtain ⟨x, H1, I1, r1, q1⟩ := hv
    refine thn (q1 pins s1 v I1 r1) fun k s2 hk => ?_
    obtain ⟨H2, I2, q2⟩ := hk
    cases k with
    | true => rw [if_pos rfl] at q2; exact ⟨x, H2, I2, r1, q2⟩
    | false => rw [if_neg Bool.false_ne_true] at q2; exact q2 pins s2 I2
theorem re_not (ht : TrD G t) (ha : RE G a ma) : RE G (.UnaryOp .Not a pos) (eNot t ma) := by
  intro σ W env st Q w re p pins s I
  refine UnaryOp_ (thn (ha σ W env st (fun x H => QTr G σ x H fun k H2 => Q (.bl (!k)) H2) w re (bindEE p fun dx s1 x W1 e1 w1 r1 p1 => ?_) pins s I) fun v s1 hv => ?_)
  · exact ht σ W1 s1 x dx _ w1 r1 (bindTE p1 fun k s2 W2 e2 w2 p2 => p2 _ W2 (Ext.refl W2) w2 (.bl _))
  · obtain ⟨x, H1, I1, r1, q1⟩ := hv
    refine not_of (thn (q1 pins s1 v I1 r1) fun k s2 hk => ?_)
    obtain ⟨H2, I2, q2⟩ := hk
    exact ⟨.bl (!k), H2, I2, rfl, q2⟩
theorem re_ifExp (hc : RT G c ta) (ha : RE G a ma) (hb : RE G b mb) : RE G (.IfExp c a b pos) (eIf ta ma mb) := by
  intro σ W env st Q w re p
  refine qe_of (pe_ifExp pt_q pe_q pe_q) ?_
  refine hc σ W env st _ w re (bindTE p fun x s1 W1 e1 w1 p1 => ?_)
  cases x with
  | true => rw [if_pos rfl] at p1 ⊢; exact ha σ W1 env s1 Q w1 (re.mono e1) p1
  | false => rw [if_neg Bool.false_ne_true] at p1 ⊢; exact hb σ W1 env s1 Q w1 (re.mono e1) p1
/-! ### argument lists, displays -/
def aNil : AM := fun _ st => .ok [] st
def aCons (a : EM) (r : AM) : AM := fun env st => (a env st).bind fun x s => (r env s).bind fun xs s2 => .ok (x :: xs) s2
variable {aa : AM}
theorem ra_nil : RA G [] aNil := by
  intro σ W env st Q w re p
  exact qa_of pa_nil (p [] W (Ext.refl W) w .nil)
theorem ra_cons (ha : RE G e ma) (hr : RA G es aa) (hs : starEach (e :: es) G.X.env = (false, eval e G.X.env) :: starEach es G.X.env := by exact starEach_ns rfl) : RA G (e :: es) (aCons ma aa) := by
  intro σ W env st Q w re p
  refine qa_of (pa_cons pe_q pa_q hs) ?_
  refine ha σ W env st _ w re (bindEA p fun dx s1 x W1 e1 w1 r1 p1 => ?_)
  refine hr σ W1 env s1 _ w1 (re.mono e1) (bindAA p1 fun ds s2 vs W2 e2 w2 r2 p2 => ?_)
  exact p2 (x :: vs) W2 (Ext.refl W2) w2 (.cons (r1.mono e2) r2)
end
/-! ### new objects in a world -/
/-- a new tree at p -/
def Wd.lay (W : Wd) (p : Addr) (o : HO) (hp : W.h p = none) : Wd where
  av := W.av
  g := W.g
  h := upd W.h p o
  trk := fun q h => by
    by_cases e : q = p
    · subst e; exact absurd hp (W.trk q h)
    · rw [upd_ne e]; exact W.trk q h
  gav := W.gav
theorem Wd.lay_ext (W : Wd) {p : Addr} {o : HO} (hp : W.h p = none) : Ext W (W.lay p o hp) where
  keep := fun q u _ h => by
    show upd W.h p o q = some u
    rw [upd_ne (ne_of_none h hp)]
    exact h
  own := fun q h _ => by
    show upd W.h p o q = W.h q
    have ne : q ≠ p := fun e => by subst e; exact W.trk q h hp
    rw [upd_ne ne]
  av := fun _ h => h
  new := fun _ h => .inl h
  stay := fun q h => by
    by_cases e : q = p
    · rw [e]; exact hp
    · have h : upd W.h p o q = none := h
      rw [upd_ne e] at h
      exact h
  pre := ⟨[], by show W.g = W.g ++ []; simp, fun _ h => by simp at h⟩
theorem CellOk.mono {K : PySem.W.Frag} {ca : Nat → Addr} {W W' : Wd} {p : Addr} {c : Cl} (e : Ext W W') (hh : W'.h p = W.h p) (h : CellOk K ca W p c) : CellOk K ca W' p c := by
  cases c with
  | lst ds =>
    obtain ⟨xs, h1, h2⟩ := h
    exact ⟨xs, hh.trans h1, h2.mono e⟩
  | ins c gs =>
    obtain ⟨dx, fs, h1, h2⟩ := h
    exact ⟨dx, fs, hh.trans h1, h2.mono e⟩
  | dk kvs =>
    obtain ⟨ws, h1, h2⟩ := h
    exact ⟨ws, hh.trans h1, Paired.mapP h2 fun a b z => ⟨z.1, z.2.mono e⟩⟩
  | tab n q => exact ⟨h.1, h.2.kw e.kp.kw hh⟩
/-- no cell is touched -/
theorem WOk.same {K : PySem.W.Frag} {ca : Nat → Addr} {W W' : Wd} {st : Sto} (w : WOk K ca W st) (e : Ext W W') (hg : W'.g = W.g) (hh : ∀ p ∈ W.g, W'.h p = W.h p) : WOk K ca W' st where
  nd := by rw [hg]; exact w.nd
  len := by rw [hg]; exact w.len
  cell := fun n p c h1 h2 => by
    rw [hg] at h1
    exact (w.cell n p c h1 h2).mono e (hh p (List.mem_of_getElem? h1))
theorem WOk.lay {K : PySem.W.Frag} {ca : Nat → Addr} {W : Wd} {st : Sto} (w : WOk K ca W st) {p : Addr} {o : HO} (hp : W.h p = none) : WOk K ca (W.lay p o hp) st :=
  w.same (W.lay_ext hp) rfl fun q hq => by
    show upd W.h p o q = W.h q
    have ne : q ≠ p := fun e => by subst e; exact W.trk q (W.gav q hq) hp
    rw [upd_ne ne]
theorem Wd.lay_nav (W : Wd) {p : Addr} {o : HO} (hp : W.h p = none) : ¬ (W.lay p o hp).av p := fun h => W.trk p h hp
/-! ### worlds written -/
/-- what lies at p is written anew -/
def Wd.wr (W : Wd) (p : Addr) (o : HO) (hp : W.h p ≠ none) : Wd where
  av := W.av
  g := W.g
  h := upd W.h p o
  trk := fun q h => by
    by_cases e : q = p
    · subst e; rw [upd_same]; exact fun z => by cases z
    · rw [upd_ne e]; exact W.trk q h
  gav := W.gav
/-- p is owned from now on -/
def Wd.own (W : Wd) (p : Addr) (hp : W.h p ≠ none) : Wd where
  av := fun q => W.av q ∨ q = p
  g := W.g
  h := W.h
  trk := fun q h => by
    rcases h with h | h
    · exact W.trk q h
    · subst h; exact hp
  gav := fun q h => .inl (W.gav q h)
/-- p is owned no more -/
def Wd.drop (W : Wd) (p : Addr) (hp : p ∉ W.g) : Wd where
  av := fun q => W.av q ∧ q ≠ p
  g := W.g
  h := W.h
  trk := fun q h => W.trk q h.1
  gav := fun q h => ⟨W.gav q h, fun e => by subst e; exact hp h⟩
/-- p is a cell from now on -/
def Wd.cel (W : Wd) (p : Addr) (hp : W.h p ≠ none) : Wd where
  av := fun q => W.av q ∨ q = p
  g := W.g ++ [p]
  h := W.h
  trk := fun q h => by
    rcases h with h | h
    · exact W.trk q h
    · subst h; exact hp
  gav := fun q h => by
    rcases List.mem_append.mp h with h | h
    · exact .inl (W.gav q h)
    · exact .inr (by simpa using h)
theorem CellOk.kp {K : PySem.W.Frag} {ca : Nat → Addr} {W W' : Wd} {p : Addr} {c : Cl} (e : Kp W W') (hh : W'.h p = W.h p) (h : CellOk K ca W p c) : CellOk K ca W' p c := by
  cases c with
  | lst ds =>
    obtain ⟨xs, h1, h2⟩ := h
    exact ⟨xs, hh.trans h1, h2.kp e⟩
  | ins c gs =>
    obtain ⟨dx, fs, h1, h2⟩ := h
    exact ⟨dx, fs, hh.trans h1, h2.kp e⟩
  | dk kvs =>
    obtain ⟨ws, h1, h2⟩ := h
    exact ⟨ws, hh.trans h1, Paired.mapP h2 fun a b z => ⟨z.1, z.2.kp e⟩⟩
  | tab n q => exact ⟨h.1, h.2.kw e.kw hh⟩
theorem WOk.kp {K : PySem.W.Frag} {ca : Nat → Addr} {W W' : Wd} {st : Sto} (w : WOk K ca W st) (e : Kp W W') (hg : W'.g = W.g) (hh : ∀ p ∈ W.g, W'.h p = W.h p) : WOk K ca W' st where
  nd := by rw [hg]; exact w.nd
  len := by rw [hg]; exact w.len
  cell := fun n p c h1 h2 => by
    rw [hg] at h1
    exact (w.cell n p c h1 h2).kp e (hh p (List.mem_of_getElem? h1))
section
variable {K : PySem.W.Frag} {ca : Nat → Addr} {W : Wd} {st : Sto} {p : Addr}
theorem Wd.own_kp (W : Wd) {p : Addr} (hp : W.h p ≠ none) {W0 : Wd} (e : Kp W0 W) (n : W0.h p = none) : Kp W0 (W.own p hp) where
  keep := e.keep
  new := fun q h => by
    rcases h with h | h
    · exact e.new q h
    · subst h; exact .inr n
  stay := e.stay
  pre := e.pre
theorem Wd.drop_kp (W : Wd) {p : Addr} (hp : p ∉ W.g) : Kp W (W.drop p hp) where
  keep := fun _ _ _ h => h
  new := fun q h => .inl h.1
  stay := fun _ h => h
  pre := ⟨[], by show W.g = W.g ++ []; simp, fun _ h => by simp at h⟩
theorem WOk.drop (w : WOk K ca W st) (hp : p ∉ W.g) : WOk K ca (W.drop p hp) st := w.kp (W.drop_kp hp) rfl fun _ _ => rfl
/-- a new thing that is owned: seen from the world before it came -/
theorem Wd.own_ext {W W1 : Wd} {p : Addr} (e : Ext W W1) (n : W.h p = none) (hp : W1.h p ≠ none) : Ext W (W1.own p hp) where
  keep := e.keep
  own := e.own
  av := fun q h => .inl (e.av q h)
  new := fun q h => by
    rcases h with h | h
    · exact e.new q h
    · subst h; exact .inr n
  stay := e.stay
  pre := e.pre
theorem Wd.drop_ext {W W1 : Wd} {p : Addr} (e : Ext W W1) (n : W.h p = none) (hp : p ∉ W1.g) : Ext W (W1.drop p hp) where
  keep := e.keep
  own := e.own
  av := fun q h => ⟨e.av q h, fun z => by subst z; exact W.trk q h n⟩
  new := fun q h => e.new q h.1
  stay := e.stay
  pre := e.pre
theorem WOk.own (w : WOk K ca W st) {p : Addr} {o : HO} (hn : W.h p = none) (hp : (W.lay p o hn).h p ≠ none) : WOk K ca ((W.lay p o hn).own p hp) st :=
  w.same (Wd.own_ext (W.lay_ext hn) hn hp) rfl fun q hq => by
    show upd W.h p o q = W.h q
    rw [upd_ne (fun e => by subst e; exact W.trk q (W.gav q hq) hn)]
end
/-- sizes that a display bears -/
abbrev LIM : Nat := 16777216
theorem lim_le {n : Nat} (h : n ≤ LIM) : n ≤ sizeLine := by rw [sizeLine_eq]; exact h
theorem lim_lt {n : Nat} (h : n < LIM) : n < sizeLine := by rw [sizeLine_eq]; exact h
def eTup (a : AM) : EM := fun env st => (a env st).bind fun xs s => if xs.length ≤ LIM then .ok (.tup xs) s else .bad
def lLst (a : AM) : AM := fun env st => (a env st).bind fun xs s => if xs.length ≤ LIM then .ok xs s else .bad
/-- a new list as a tree -/
def eL (a : AM) : EM := fun env st => (a env st).bind fun xs s => .ok (.lst xs) s
section
variable {G : Gx} {e a b c : Expr} {es : List Expr} {pos : Pos} {aa : AM}
theorem re_tup {k : Nat} (ha : RA G es aa) : RE G (.Tuple es k pos) (eTup aa) := by
  intro σ W env st Q w re p
  refine qe_of (pe_tup pa_q) ?_
  refine ha σ W env st _ w re (bindAE p fun ds s1 vs W1 e1 w1 r1 p1 => ?_)
  split at p1
  · rename_i hl
    refine ⟨lim_le (by rw [r1.length]; exact hl), fun q hq => ?_⟩
    exact p1 (.ref q) (W1.lay q (.tup vs) hq) (W1.lay_ext hq) (w1.lay hq) (.tup (W1.lay_nav hq) (.inl upd_same) (r1.mono (W1.lay_ext hq)))
  · exact p1.elim
theorem rl_lst (ha : RA G es aa) : RL G (.List es pos) (lLst aa) := by
  intro σ W env st Q w re p
  refine qe_of (pe_lst pa_q) ?_
  refine ha σ W env st _ w re (bindAL p fun ds s1 vs W1 e1 w1 r1 p1 => ?_)
  split at p1
  · rename_i hl
    refine ⟨lim_le (by rw [r1.length]; exact hl), fun q hq => ?_⟩
    have hp : (W1.lay q (.lst vs) hq).h q ≠ none := by
      show upd W1.h q (.lst vs) q ≠ none
      rw [upd_same]; exact fun z => by cases z
    have x := Wd.own_ext (W1.lay_ext (o := .lst vs) hq) hq hp
    exact p1 q vs ((W1.lay q (.lst vs) hq).own q hp) x hq (.inr rfl) (fun z => W1.trk q (W1.gav q z) hq) upd_same (w1.own hq hp) (r1.mono x)
  · exact p1.elim
/-- a new list as a tree -/
theorem re_l {m : AM} (h : RL G e m) : RE G e (eL m) := by
  intro σ W env st Q w re p
  refine h σ W env st Q w re ?_
  unfold eL at p
  cases hm : m env st with
  | ok ds s1 =>
    rw [hm] at p
    exact fun q xs W' e1 n _ ng hh w1 r1 => p (.ref q) (W'.drop q ng) (Wd.drop_ext e1 n ng) (w1.drop ng) (.lst (fun z => z.2 rfl) hh (r1.kp (W'.drop_kp ng)))
  | exc c fs s1 => rw [hm] at p; exact p
  | bad => rw [hm] at p; exact p
end
end Mi
/-! MiStmt: slots stored, statements, loops. -/
namespace Mi
open PySem PySem.Spec PyProof.Rows L2
/-! ### slots stored -/
theorem Own.set_sh {σ : L2.St} {env : En} {i j : Nat} {x : Option V} {s : Slot} {p : Addr} (hs : s.isO = false) (h : Own (σ.set i x) (env.set i s) j p) : j ≠ i ∧ Own σ env j p := by
  obtain ⟨h1, t, h2, h3⟩ := h
  have hne : j ≠ i := fun e => by
    subst e
    by_cases hj : j < env.length
    · rw [List.getElem?_set_self hj] at h2
      cases h2
      rw [hs] at h3
      cases h3
    · rw [List.getElem?_eq_none (by simpa using hj)] at h2
      cases h2
  rw [List.getElem?_set_ne (Ne.symm hne)] at h1 h2
  exact ⟨hne, h1, t, h2, h3⟩
theorem OwnI.set_sh {σ : L2.St} {env : En} {i j : Nat} {x : Option V} {s : Slot} {p : Addr} (hs : s.isO = false) (h : OwnI (σ.set i x) (env.set i s) j p) : OwnI σ env j p := by
  obtain ⟨h1, c, fs, h2⟩ := h
  have hne := (Own.set_sh (σ := σ) (env := env) (i := i) (j := j) (x := x) (p := p) hs ⟨h1, _, h2, rfl⟩).1
  rw [List.getElem?_set_ne (Ne.symm hne)] at h1 h2
  exact ⟨h1, c, fs, h2⟩
section
variable {K : PySem.W.Frag} {ca : Nat → Addr} {xc : XC} {W : Wd} {σ : L2.St} {env : En}
/-- a slot stored: a shared value, nothing, the suite's exception -/
theorem RepE.put {i : Nat} {x : Option V} {s : Slot} (r : RepE K ca xc W σ env) (hs : s.isO = false) (hv : ∀ d, s = .sh d → ∃ v, x = some v ∧ Rep K ca W v d)
    (hx : ∀ c fs, s = .ex c fs → ∃ a d, xc = some (a, .ref (ca c), d) ∧ x = some (.ref a) ∧ RepX K ca W fs d) : RepE K ca xc W (σ.set i x) (env.set i s) where
  len := by rw [List.length_set, List.length_set, r.len]
  sh := fun j d h => by
    by_cases e : i = j
    · subst e
      by_cases hj : i < env.length
      · rw [List.getElem?_set_self hj] at h
        obtain ⟨v, h1, h2⟩ := hv d (Option.some.inj h)
        exact ⟨v, by rw [List.getElem?_set_self (by rw [r.len]; exact hj), h1], h2⟩
      · rw [List.getElem?_eq_none (by simpa using hj)] at h
        cases h
    · rw [List.getElem?_set_ne e] at h ⊢
      exact r.sh j d h
  oL := fun j ds h => by
    by_cases e : i = j
    · subst e
      by_cases hj : i < env.length
      · rw [List.getElem?_set_self hj] at h
        cases h
        cases hs
      · rw [List.getElem?_eq_none (by simpa using hj)] at h
        cases h
    · rw [List.getElem?_set_ne e] at h ⊢
      exact r.oL j ds h
  oI := fun j c fs h => by
    by_cases e : i = j
    · subst e
      by_cases hj : i < env.length
      · rw [List.getElem?_set_self hj] at h
        cases h
        cases hs
      · rw [List.getElem?_eq_none (by simpa using hj)] at h
        cases h
    · rw [List.getElem?_set_ne e] at h ⊢
      exact r.oI j c fs h
  ex := fun j c fs h => by
    by_cases e : i = j
    · subst e
      by_cases hj : i < env.length
      · rw [List.getElem?_set_self hj] at h
        obtain ⟨a, d, h1, h2, h3⟩ := hx c fs (Option.some.inj h)
        exact ⟨a, d, h1, by rw [List.getElem?_set_self (by rw [r.len]; exact hj), h2], h3⟩
      · rw [List.getElem?_eq_none (by simpa using hj)] at h
        cases h
    · rw [List.getElem?_set_ne e] at h ⊢
      exact r.ex j c fs h
  sep := fun a b p h1 h2 => r.sep a b p (Own.set_sh hs h1).2 (Own.set_sh hs h2).2
theorem RepE.set {i : Nat} {v : V} {d : D} (r : RepE K ca xc W σ env) (h : Rep K ca W v d) : RepE K ca xc W (σ.set i (some v)) (env.set i (.sh d)) :=
  r.put rfl (fun d' e => by cases e; exact ⟨v, rfl, h⟩) fun c fs e => by cases e
theorem RepE.wipe1 {i : Nat} {x : Option V} (r : RepE K ca xc W σ env) : RepE K ca xc W (σ.set i x) (env.set i .no) :=
  r.put rfl (fun d' e => by cases e) fun c fs e => by cases e
theorem ExtS.refl (W : Wd) (σ : L2.St) (env : En) : ExtS W σ env W σ env := (Ext.refl W).s σ env
theorem ExtS.set (W : Wd) (σ : L2.St) (env : En) {i : Nat} {x : Option V} {s : Slot} (hs : s.isO = false) : ExtS W σ env W (σ.set i x) (env.set i s) :=
  ⟨fun _ _ _ h => h, fun p h _ _ => ⟨rfl, h⟩, fun _ h => .inl h, fun _ h => h, ⟨[], by simp, fun _ h => by simp at h⟩, fun j p h => .inl ⟨j, (Own.set_sh hs h).2⟩, fun j p h => ⟨j, OwnI.set_sh hs h⟩⟩
/-- a def is left -/
theorem Ext.r {W W' : Wd} (e : Ext W W') (σ : L2.St) (env : En) : ExtS W σ env W' [] [] :=
  ⟨e.keep, fun p h n _ => ⟨e.own p h n, e.av p h⟩, e.new, e.stay, e.pre, (fun i p h => by obtain ⟨h, _⟩ := h; simp at h), (fun i p h => by obtain ⟨h, _⟩ := h; simp at h)⟩
end
/-! ### blocks, small statements -/
def sNil : SM := fun env st => .nx env st
def sSeq (a b : SM) : SM := fun env st => match a env st with
  | .nx env' st' => b env' st'
  | r => r
def sExpr (a : EM) : SM := fun env st => (a env st).go env fun _ s => .nx env s
def sRet (a : EM) : SM := fun env st => (a env st).go env fun d s => .rt d s
def sRetN : SM := fun _ st => .rt .non st
def sSet (i : Nat) (a : EM) : SM := fun env st => (a env st).go env fun d s => .nx (env.set i (.sh d)) s
def sIf (c : TM) (a b : SM) : SM := fun env st => (c env st).go env fun k s => if k = true then a env s else b env s
def sBrk : SM := fun env st => .bk env st
def sCnt : SM := fun env st => .ct env st
section
variable {G : Gx} {e : Expr} {s : Stmt} {rest ss us : List Stmt} {pos pos' : Pos} {ma : EM} {m n : SM} {tc : TM}
theorem rss_nil : RSs G [] sNil := by
  intro σ W env st Dn w re p
  exact qss_of pss_nil (p σ W (ExtS.refl W σ env) w re)
theorem rss_cons (h1 : RS G s m) (h2 : RSs G rest n) : RSs G (s :: rest) (sSeq m n) := by
  intro σ W env st Dn w re p
  refine qss_of (pss_cons ps_q pss_q) ?_
  show QS G s { Dn with nx := QSs G rest Dn } σ W.h
  refine h1 σ W env st _ w re ?_
  unfold sSeq at p
  cases hm : m env st with
  | nx env' st' =>
    rw [hm] at p
    exact fun σ' W' e w' re' => h2 σ' W' env' st' Dn w' re' (PostS.mono e p)
  | rt d st' => rw [hm] at p; exact p
  | bk env' st' => rw [hm] at p; exact p
  | ct env' st' => rw [hm] at p; exact p
  | exc env' c fs st' => rw [hm] at p; exact p
  | bad => rw [hm] at p; exact p
theorem rss_one (h1 : RS G s m) : RSs G [s] m := by
  intro σ W env st Dn w re p
  exact qss_of (pss_one ps_q) (h1 σ W env st Dn w re p)
theorem rs_pass : RS G (.Pass pos) sNil := by
  intro σ W env st Dn w re p
  exact qs_of ps_pass (p σ W (ExtS.refl W σ env) w re)
theorem rs_break : RS G (.Break pos) sBrk := by
  intro σ W env st Dn w re p
  exact qs_of ps_break (p σ W (ExtS.refl W σ env) w re)
theorem rs_continue : RS G (.Continue pos) sCnt := by
  intro σ W env st Dn w re p
  exact qs_of ps_continue (p σ W (ExtS.refl W σ env) w re)
theorem rs_expr (ha : RE G e ma) (hs : swapsWith e none pos.line G.X.env = pure false := by first | exact swaps_ns rfl | rfl) : RS G (.Expr e pos) (sExpr ma) := by
  intro σ W env st Dn w re p
  refine qs_of (ps_expr pe_q hs) ?_
  exact ha σ W env st _ w re (bindES re p fun d s1 v W1 e1 w1 r1 re1 p1 => p1 σ W1 (ExtS.refl W1 σ env) w1 re1)
theorem rs_ret (ha : RE G e ma) : RS G (.Return (some e) pos) (sRet ma) := by
  intro σ W env st Dn w re p
  refine qs_of (ps_ret pe_q) ?_
  exact ha σ W env st _ w re (bindES re p fun d s1 v W1 e1 w1 r1 re1 p1 => p1 v W1 ((Ext.refl W1).r σ env) w1 r1)
theorem rs_retN : RS G (.Return none pos) sRetN := by
  intro σ W env st Dn w re p
  exact qs_of ps_retN (p .non W ((Ext.refl W).r σ env) w .non)
theorem rs_set {i : Nat} {x : Str} (hN : G.X.N.Nodup) (hi : G.X.N[i]? = some x) (hx : Loc G.X.env.scope x) (ha : RE G e ma) (hs : swapsWith e (some (.Name x pos')) pos.line G.X.env = pure false := by first | exact swaps_ns rfl | rfl)
    (hf : G.X.fn x = true ∨ G.X.env.scope.names.lookup x = some .local := by first | exact .inl rfl | exact .inr rfl | assumption) : RS G (.Assign [.Name x pos'] e pos) (sSet i ma) := by
  intro σ W env st Dn w re p
  refine qs_of (ps_set hN hi hx pe_q hs hf) ?_
  exact ha σ W env st _ w re (bindES re p fun d s1 v W1 e1 w1 r1 re1 p1 => p1 (σ.set i (some v)) W1 (ExtS.set W1 σ env rfl) w1 (re1.set r1))
theorem rs_if (hc : RT G e tc) (ha : RSs G ss m) (hb : RSs G us n) : RS G (.If e ss us pos) (sIf tc m n) := by
  intro σ W env st Dn w re p
  refine qs_of (ps_if pt_q pss_q pss_q) ?_
  refine hc σ W env st _ w re (bindTS re p fun k s1 W1 e1 w1 re1 p1 => ?_)
  cases k with
  | true => rw [if_pos rfl] at p1 ⊢; exact ha σ W1 env s1 Dn w1 re1 p1
  | false => rw [if_neg Bool.false_ne_true] at p1 ⊢; exact hb σ W1 env s1 Dn w1 re1 p1
end
/-! ### targets -/
abbrev TgM := D → En → Option En
def gN (i : Nat) : TgM := fun d env => some (env.set i (.sh d))
def gTs : List TgM → List D → En → Option En
  | [], [], env => some env
  | t :: ts, d :: ds, env => (t d env).bind (gTs ts ds)
  | _, _, _ => none
def gT (ts : List TgM) : TgM := fun d env => match d with
  | .tup ds => gTs ts ds env
  | _ => none
/-- two states that differ at most at these slots -/
def Dif (js : List Nat) (σ σ' : L2.St) : Prop := σ'.length = σ.length ∧ ∀ k, k ∉ js → σ'[k]? = σ[k]?
theorem Dif.refl {js : List Nat} {σ : L2.St} : Dif js σ σ := ⟨rfl, fun _ _ => rfl⟩
theorem Dif.trans {js : List Nat} {σ σ1 σ2 : L2.St} (a : Dif js σ σ1) (b : Dif js σ1 σ2) : Dif js σ σ2 := ⟨b.1.trans a.1, fun k h => (b.2 k h).trans (a.2 k h)⟩
theorem Dif.mono {js ks : List Nat} {σ σ' : L2.St} (h : ∀ j ∈ js, j ∈ ks) (a : Dif js σ σ') : Dif ks σ σ' := ⟨a.1, fun k n => a.2 k fun z => n (h k z)⟩
def QG (G : Gx) (tg : Expr) (v : V) (σ : L2.St) (H : Hp) (Q : L2.St → Hp → Prop) : Prop := ∀ pins s u, Inv G.X pins σ H s → RelV v u →
  wpAny (model G.X.prog G.X.w) G.X.A (assign tg G.X.env u) (fun _ s' => ∃ σ' H', Inv G.X pins σ' H' s' ∧ Q σ' H') G.X.xe s
theorem pg_q {G : Gx} {tg : Expr} : PG G.X tg (QG G tg) := ⟨fun pins s _ _ _ u _ I r h => h pins s u I r⟩
theorem qg_of {G : Gx} {tg : Expr} {t : TG} {v : V} {σ : L2.St} {H : Hp} {Q : L2.St → Hp → Prop} (h : PG G.X tg t) (q : t v σ H Q) : QG G tg v σ H Q := fun pins s u I r => h.run pins s σ H v u Q I r q
def PostG (G : Gx) (W : Wd) (σ : L2.St) (env : En) (js : List Nat) (r : Option En) (Q : L2.St → Hp → Prop) : Prop := match r with
  | some env' => ∀ σ', Dif js σ σ' → ExtS W σ env W σ' env' → RepE G.X.K G.ca G.xc W σ' env' → Q σ' W.h
  | none => False
def RG (G : Gx) (tg : Expr) (js : List Nat) (m : TgM) : Prop := ∀ σ W env v d Q, RepE G.X.K G.ca G.xc W σ env → Rep G.X.K G.ca W v d → PostG G W σ env js (m d env) Q → QG G tg v σ W.h Q
def RGs (G : Gx) (ts : List Expr) (js : List Nat) (ms : List TgM) : Prop := ∀ σ W env vs ds Q, RepE G.X.K G.ca G.xc W σ env → Reps G.X.K G.ca W vs ds → PostG G W σ env js (gTs ms ds env) Q →
  ∃ t, PGs G.X ts t ∧ t vs σ W.h Q
section
variable {G : Gx} {e : Expr} {es : List Expr} {pos : Pos} {js : List Nat} {mt : TgM} {ms : List TgM}
theorem rg_name {i : Nat} {x : Str} (hN : G.X.N.Nodup) (hi : G.X.N[i]? = some x) (hx : Loc G.X.env.scope x) (hj : i ∈ js) (hf : G.X.fn x = true ∨ G.X.env.scope.names.lookup x = some .local := by first | exact .inl rfl | exact .inr rfl | assumption) : RG G (.Name x pos) js (gN i) := by
  intro σ W env v d Q re r p
  refine qg_of (pg_name hN hi hx hf) ?_
  refine p (σ.set i (some v)) ⟨by simp, fun k hk => ?_⟩ (ExtS.set W σ env rfl) (re.set r)
  have ne : i ≠ k := fun z => by subst z; exact hk hj
  rw [List.getElem?_set_ne ne]
theorem rgs_nil : RGs G [] js [] := by
  intro σ W env vs ds Q re r p
  cases r with
  | nil => exact ⟨gNil, pgs_nil, rfl, p σ Dif.refl (ExtS.refl W σ env) re⟩
  | cons _ _ => exact p.elim
theorem rgs_cons (h1 : RG G e js mt) (h2 : RGs G es js ms) (hs : (assignEach (e :: es) G.X.env).map (·.2) = assign e G.X.env :: (assignEach es G.X.env).map (·.2) := by exact asg_ns rfl) : RGs G (e :: es) js (mt :: ms) := by
  intro σ W env vs ds Q re r p
  cases r with
  | nil => exact p.elim
  | cons r1 rr =>
    rename_i v d vs ds
    refine ⟨gCons (QG G e) (fun vs σ H Q => ∃ t, PGs G.X es t ∧ t vs σ H Q), pgs_cons pg_q ⟨fun pins s σ H vs us Q I rv h => ?_⟩ hs, v, vs, rfl, ?_⟩
    · obtain ⟨t, ht, hq⟩ := h
      exact ht.run pins s σ H vs us Q I rv hq
    · refine h1 σ W env v d _ re r1 ?_
      unfold gTs at p
      cases hm : mt d env with
      | none => rw [hm] at p; exact p.elim
      | some env1 =>
        rw [hm] at p
        intro σ1 d1 x1 re1
        refine h2 σ1 W env1 vs ds Q re1 rr ?_
        show PostG G W σ1 env1 js (gTs ms ds env1) Q
        have p : PostG G W σ env js (gTs ms ds env1) Q := p
        cases hg : gTs ms ds env1 with
        | none => rw [hg] at p; exact p.elim
        | some env2 =>
          rw [hg] at p
          exact fun σ2 d2 x2 re2 => p σ2 (d1.trans d2) (x1.trans x2) re2
theorem rg_tup {k : Nat} {n : Nat} (hc : G.X.calm = true) (h : RGs G es js ms) (hn : (assignEach es G.X.env).length = n := by exact asg_len rfl) (hm : ms.length = n := by rfl) (hst : (assignEach es G.X.env).findIdx? (·.1) = none := by exact asg_find rfl) : RG G (.Tuple es k pos) js (gT ms) := by
  intro σ W env v d Q re r p
  have hlen : ∀ (ms : List TgM) (ds : List D) (env : En), gTs ms ds env ≠ none → ms.length = ds.length := fun ms => by
    induction ms with
    | nil => intro ds env h; cases ds with
      | nil => rfl
      | cons _ _ => exact absurd rfl h
    | cons t ts ih => intro ds env h; cases ds with
      | nil => exact absurd rfl h
      | cons d ds =>
        unfold gTs at h
        cases q : t d env with
        | none => rw [q] at h; exact absurd rfl h
        | some env1 =>
          rw [q] at h
          have := ih ds env1 h
          simp [this]
  have fin : ∀ {q : Addr} {xs : List V} {ds : List D}, SqT G.X.K W.h q xs → Reps G.X.K G.ca W xs ds → PostG G W σ env js (gTs ms ds env) Q → QG G (.Tuple es k pos) (.ref q) σ W.h Q := fun {q xs ds} sq rr p => by
    have hl : ms.length = ds.length := hlen ms ds env fun z => by rw [z] at p; exact p
    obtain ⟨t, ht, hq⟩ := h σ W env xs ds Q re rr p
    exact qg_of (pg_tup hc ht hn hst) ⟨q, xs, rfl, sq, by rw [rr.length, ← hl, hm], hq⟩
  cases r with
  | tup n1 h1 r1 => exact fin (.inl h1) r1 p
  | tupK h1 r1 => exact fin h1.sq r1 p
  | _ => exact p.elim
end
/-! ### what is walked -/
def JOk (K : PySem.W.Frag) (ca : Nat → Addr) (W : Wd) (J : It) (ds : List D) : Prop := ∀ (W' : Wd) (st : Sto), Kp W W' → WOk K ca W' st →
  (∀ (i : Nat) (d : D), ds[i]? = some d → J.go i W'.h ∧ ∀ x H', J.yld i W'.h x H' → ∃ W2 : Wd, W2.h = H' ∧ Ext W' W2 ∧ WOk K ca W2 st ∧ Rep K ca W2 x d) ∧ J.stop ds.length W'.h
def PostI (G : Gx) (W : Wd) (σ : L2.St) (r : Res (List D)) (R : It → Hp → Prop) : Prop := match r with
  | .ok ds st => ∀ J W', Ext W W' → WOk G.X.K G.ca W' st → JOk G.X.K G.ca W' J ds → R J W'.h
  | .exc c fs st => ∀ dd W', Ext W W' → WOk G.X.K G.ca W' st → RepX G.X.K G.ca W' fs dd → G.E (.ref (G.ca c)) dd σ W'.h
  | .bad => False
def RI (G : Gx) (tg iter : Expr) (m : AM) : Prop := ∀ σ W env st R, WOk G.X.K G.ca W st → RepE G.X.K G.ca G.xc W σ env → PostI G W σ (m env st) R → QI G tg iter σ W.h R
def forLoop (tg : TgM) (body : SM) : List D → SM
  | [], env, st => .nx env st
  | d :: ds, env, st => match tg d env with
    | none => .bad
    | some env1 => match body env1 st with
      | .nx env2 st2 => forLoop tg body ds env2 st2
      | .ct env2 st2 => forLoop tg body ds env2 st2
      | .bk env2 st2 => .nx env2 st2
      | r => r
def sFor (it : AM) (tg : TgM) (body : SM) : SM := fun env st => (it env st).go env fun ds s => forLoop tg body ds env s
section
variable {G : Gx} {tg iter : Expr} {body : List Stmt} {pos : Pos} {mi : AM} {js : List Nat} {mt : TgM} {mb : SM}
theorem bindIS {W : Wd} {σ : L2.St} {r : Res (List D)} {f : List D → Sto → SRes} {env : En} {Dn : Ends} {R : It → Hp → Prop} (re : RepE G.X.K G.ca G.xc W σ env) (h : PostS G W σ env (r.go env f) Dn)
    (k : ∀ (ds : List D) (s1 : Sto) (J : It) (W2 : Wd), Ext W W2 → WOk G.X.K G.ca W2 s1 → JOk G.X.K G.ca W2 J ds → RepE G.X.K G.ca G.xc W2 σ env → PostS G W2 σ env (f ds s1) Dn → R J W2.h) : PostI G W σ r R := by
  cases r with
  | ok d s1 => exact fun J W2 e w j => k d s1 J W2 e w j (re.mono e) (PostS.mono (e.s σ env) h)
  | exc c fs s1 => exact fun dd W2 e w x => h σ dd W2 (e.s σ env) w (re.mono e) x
  | bad => exact h
theorem drop_at {α : Type} {l : List α} {i : Nat} {d : α} (h : l[i]? = some d) : l.drop i = d :: l.drop (i + 1) := by
  obtain ⟨h1, h2⟩ := List.getElem?_eq_some_iff.mp h
  rw [List.drop_eq_getElem_cons h1, h2]
theorem rs_for (hp : PassesOwn (model G.X.prog G.X.w) G.X.A G.X.env G.X.xe) (hc : G.X.calm = true) (hi : RI G tg iter mi) (hg : RG G tg js mt) (hb : RSs G body mb)
    (hs : ∀ x, foldedSetIterable iter G.X.env x = pure x := by exact fold_ns rfl) : RS G (.For tg iter body [] pos) (sFor mi mt mb) := by
  intro σ W env st Dn w re p
  refine qs_of (ps_for hp hc pi_q pg_q pss_q hs) ?_
  refine hi σ W env st _ w re (bindIS re p fun ds s1 J W1 e1 w1 j1 re1 p1 => ?_)
  refine ⟨fun i m σ' H' => ∃ W' env' st', H' = W'.h ∧ m = ds.length - i ∧ i ≤ ds.length ∧ Kp W1 W' ∧ WOk G.X.K G.ca W' st' ∧ RepE G.X.K G.ca G.xc W' σ' env' ∧ PostS G W' σ' env' (forLoop mt mb (ds.drop i) env' st') Dn,
    ⟨ds.length, W1, env, s1, rfl, rfl, Nat.zero_le _, Kp.refl W1, w1, re1, p1⟩, ?_⟩
  rintro i m σ' H' ⟨W', env', st', rfl, rfl, hi, k', w', re', p'⟩
  obtain ⟨jg, js'⟩ := j1 W' st' k' w'
  cases hd : ds[i]? with
  | none =>
    have hl : ds.length ≤ i := List.getElem?_eq_none_iff.mp hd
    have e : i = ds.length := Nat.le_antisymm hi hl
    subst e
    rw [List.drop_length] at p'
    exact .inl ⟨js', p' σ' W' (ExtS.refl W' σ' env') w' re'⟩
  | some d =>
    have hl : i < ds.length := (List.getElem?_eq_some_iff.mp hd).1
    obtain ⟨go, yl⟩ := jg i d hd
    rw [drop_at hd] at p'
    refine .inr ⟨go, fun σ2 H2 => ∃ W2 env2 st2, H2 = W2.h ∧ Kp W1 W2 ∧ WOk G.X.K G.ca W2 st2 ∧ RepE G.X.K G.ca G.xc W2 σ2 env2 ∧ PostS G W2 σ2 env2 (forLoop mt mb (ds.drop (i + 1)) env2 st2) Dn,
      fun σ2 H2 ⟨W2, env2, st2, h1, h2, h3, h4, h5⟩ => ⟨ds.length - (i + 1), by omega, W2, env2, st2, h1, rfl, hl, h2, h3, h4, h5⟩, fun x H2 y => ?_⟩
    obtain ⟨W2, rfl, e2, w2, r2⟩ := yl x H2 y
    refine hg σ' W2 env' x d _ (re'.mono e2) r2 ?_
    have p2 := PostS.mono (e2.s σ' env') p'
    unfold forLoop at p2
    cases hm : mt d env' with
    | none => rw [hm] at p2; exact p2.elim
    | some env1 =>
      rw [hm] at p2
      intro σ1 _ x1 re1'
      refine hb σ1 W2 env1 st' _ w2 re1' ?_
      have p3 := PostS.mono x1 p2
      dsimp only at p3
      cases hbd : mb env1 st' with
      | nx env2 st2 =>
        rw [hbd] at p3
        exact fun σ3 W3 x3 w3 re3 => ⟨W3, env2, st2, rfl, k'.trans (e2.kp.trans x3.kp), w3, re3, PostS.mono x3 p3⟩
      | ct env2 st2 =>
        rw [hbd] at p3
        exact fun σ3 W3 x3 w3 re3 => ⟨W3, env2, st2, rfl, k'.trans (e2.kp.trans x3.kp), w3, re3, PostS.mono x3 p3⟩
      | bk env2 st2 => rw [hbd] at p3; exact p3
      | rt d2 st2 => rw [hbd] at p3; exact p3
      | exc env2 c fs st2 => rw [hbd] at p3; exact p3
      | bad => rw [hbd] at p3; exact p3
end
/-! ### while -/
def wLoop (c : TM) (b : SM) : Nat → SM
  | 0, _, _ => .bad
  | n + 1, env, st => (c env st).go env fun k s => if k = true then
      (match b env s with
      | .nx env2 st2 => wLoop c b n env2 st2
      | .ct env2 st2 => wLoop c b n env2 st2
      | .bk env2 st2 => .nx env2 st2
      | r => r) else .nx env s
def sWhile (n : Nat) (c : TM) (b : SM) : SM := wLoop c b n
section
variable {G : Gx} {c : Expr} {body : List Stmt} {pos : Pos} {tc : TM} {mb : SM}
theorem rs_while {n : Nat} (hp : PassesOwn (model G.X.prog G.X.w) G.X.A G.X.env G.X.xe) (hc : RT G c tc) (hb : RSs G body mb) : RS G (.While c body [] pos) (sWhile n tc mb) := by
  intro σ W env st Dn w re p
  refine qs_of (ps_while hp pt_q pss_q) ?_
  refine ⟨fun m σ' H' => ∃ W' env' st', H' = W'.h ∧ WOk G.X.K G.ca W' st' ∧ RepE G.X.K G.ca G.xc W' σ' env' ∧ PostS G W' σ' env' (wLoop tc mb m env' st') Dn, ⟨n, W, env, st, rfl, w, re, p⟩, ?_⟩
  rintro m σ' H' ⟨W', env', st', rfl, w', re', p'⟩
  cases m with
  | zero => exact p'.elim
  | succ m =>
    refine hc σ' W' env' st' _ w' re' (bindTS re' p' fun k s1 W1 e1 w1 re1 p1 => ?_)
    cases k with
    | false => rw [if_neg Bool.false_ne_true] at p1 ⊢; exact p1 σ' W1 (ExtS.refl W1 σ' env') w1 re1
    | true =>
      rw [if_pos rfl] at p1 ⊢
      refine ⟨fun σ2 H2 => ∃ W2 env2 st2, H2 = W2.h ∧ WOk G.X.K G.ca W2 st2 ∧ RepE G.X.K G.ca G.xc W2 σ2 env2 ∧ PostS G W2 σ2 env2 (wLoop tc mb m env2 st2) Dn, fun σ2 H2 h => ⟨m, Nat.lt_succ_self m, h⟩, ?_⟩
      refine hb σ' W1 env' s1 _ w1 re1 ?_
      cases hbd : mb env' s1 with
      | nx env2 st2 =>
        rw [hbd] at p1
        exact fun σ3 W3 x3 w3 re3 => ⟨W3, env2, st2, rfl, w3, re3, PostS.mono x3 p1⟩
      | ct env2 st2 =>
        rw [hbd] at p1
        exact fun σ3 W3 x3 w3 re3 => ⟨W3, env2, st2, rfl, w3, re3, PostS.mono x3 p1⟩
      | bk env2 st2 => rw [hbd] at p1; exact p1
      | rt d2 st2 => rw [hbd] at p1; exact p1
      | exc env2 c fs st2 => rw [hbd] at p1; exact p1
      | bad => rw [hbd] at p1; exact p1
end
end Mi
/-! MiCall: defs as pure functions, calls, methods, instances and their fields, owned things. -/
namespace Mi
open PySem PySem.Spec PyProof.Rows L2
/-! ### a def's promise -/
def spM (K : PySem.W.Frag) (ca : Nat → Addr) (n : Nat) (m : List D → M D) : Sp := fun vs H Q E => ∃ (W : Wd) (st : Sto) (ds : List D), W.h = H ∧ WOk K ca W st ∧ Reps K ca W vs ds ∧ ds.length = n ∧ match m ds st with
  | .ok d st' => ∀ v W', Ext W W' → WOk K ca W' st' → Rep K ca W' v d → Q v W'.h
  | .exc c fs st' => ∀ dd W', Ext W W' → WOk K ca W' st' → RepX K ca W' fs dd → E (.ref (ca c)) dd W'.h
  | .bad => False
def env0 (n : Nat) (ds : List D) : En := ds.map Slot.sh ++ List.replicate (n - ds.length) .no
def runBody (n : Nat) (b : SM) (ds : List D) : M D := fun st => match b (env0 n ds) st with
  | .nx _ st' => .ok .non st'
  | .rt d st' => .ok d st'
  | .exc _ c fs st' => .exc c fs st'
  | _ => .bad
theorem env0_get {n : Nat} {ds : List D} {i : Nat} {s : Slot} (h : (env0 n ds)[i]? = some s) : s = .no ∨ ∃ d, s = .sh d ∧ ds[i]? = some d := by
  unfold env0 at h
  by_cases hi : i < ds.length
  · rw [List.getElem?_append_left (by simpa using hi), List.getElem?_map] at h
    cases e : ds[i]? with
    | none => rw [e] at h; cases h
    | some d => rw [e] at h; cases h; exact .inr ⟨d, rfl, rfl⟩
  · rw [List.getElem?_append_right (by simpa using hi), List.getElem?_replicate] at h
    split at h
    · cases h; exact .inl rfl
    · cases h
theorem env0_own {n : Nat} {ds : List D} {σ : L2.St} {i : Nat} {p : Addr} : ¬ Own σ (env0 n ds) i p := fun ⟨_, s, h, o⟩ => by
  rcases env0_get h with e | ⟨d, e, _⟩
  · subst e; cases o
  · subst e; cases o
theorem start_get {N : List Str} {vs : List V} {i : Nat} {v : V} (h : vs[i]? = some v) : (start N vs)[i]? = some (some v) := by
  unfold L2.start
  rw [List.getElem?_append_left (by simpa using (List.getElem?_eq_some_iff.mp h).1), List.getElem?_map, h]
  rfl
theorem repE_start {K : PySem.W.Frag} {ca : Nat → Addr} {W : Wd} {N : List Str} {vs : List V} {ds : List D} (r : Reps K ca W vs ds) : RepE K ca none W (start N vs) (env0 N.length ds) where
  len := by unfold L2.start env0; simp [r.length]
  sh := fun i d h => by
    rcases env0_get h with e | ⟨d', e, hd⟩
    · cases e
    · cases e
      obtain ⟨v, h1, h2⟩ := r.get hd
      exact ⟨v, start_get h1, h2⟩
  oL := fun i d h => by
    rcases env0_get h with e | ⟨d', e, hd⟩ <;> cases e
  oI := fun i c d h => by
    rcases env0_get h with e | ⟨d', e, hd⟩ <;> cases e
  ex := fun i c d h => by
    rcases env0_get h with e | ⟨d', e, hd⟩ <;> cases e
  sep := fun i j p h => absurd h env0_own
/-- the context of a def's body -/
abbrev gx (P : Program) (w : World) (K : PySem.W.Frag) (mg : Str → Option Value) (base : Heap) (ca : Nat → Addr) (N : List Str) (qual : Str) (sc : Scope) (f : Addr) (cdv : Value) (A : Around) (outer : List Env) (s : Shared) (H : Hp) (E : XK) : Gx where
  X := cxOf (L2.CX P w) P w K mg base N qual sc f cdv A outer s H E
  ca := ca
  E := fun c d _ H' => E c d H'
  xc := none
section
variable {P : Program} {w : World} {K : PySem.W.Frag} {mg : Str → Option Value} {base : Heap} {ca : Nat → Addr}
theorem gx_tk {N : List Str} {qual : Str} {sc : Scope} {f : Addr} {cdv : Value} {A : Around} {outer : List Env} {s : Shared} {H : Hp} {E : XK} : Takes (gx P w K mg base ca N qual sc f cdv A outer s H E).X (gx P w K mg base ca N qual sc f cdv A outer s H E).E := takes_of rfl rfl rfl rfl
theorem gx_po {N : List Str} {qual : Str} {sc : Scope} {f : Addr} {cdv : Value} {A : Around} {outer : List Env} {s : Shared} {H : Hp} {E : XK} : PassesOwn (model P w) (gx P w K mg base ca N qual sc f cdv A outer s H E).X.A (gx P w K mg base ca N qual sc f cdv A outer s H E).X.env (gx P w K mg base ca N qual sc f cdv A outer s H E).X.xe :=
  passes_of (X := (gx P w K mg base ca N qual sc f cdv A outer s H E).X) (K := fun e s'' => L2.CX P w outer H s E e s'') rfl
theorem fn_ok {x qual : Str} {st : Stmt} {f : Addr} {fd : FuncData} {N ps : List Str} {k : Nat} {b : SM} (F : Fun K x qual st f fd) (S : FnScope N ps (defScope st))
    (hb : ∀ (cdv : Value) (A : Around) (outer : List Env) (s : Shared) (H : Hp) (E : XK), Room k (A.deeper (envOfC qual (defScope st) s.heap.objs.size f cdv)) → RSs (gx P w K mg base ca N qual (defScope st) f cdv A outer s H E) (defBody st) b) :
    FnOk P w K mg base (L2.CX P w) (k + 1) f fd ps (spM K ca ps.length (runBody N.length b)) := by
  refine F.okX S (fun vs H Q E h => ?_) fun cdv A outer s H vs Q E hr h => ⟨QSs (gx P w K mg base ca N qual (defScope st) f cdv A outer s H E) (defBody st), pss_q (G := gx P w K mg base ca N qual (defScope st) f cdv A outer s H E), ?_⟩
  · obtain ⟨W, sto, ds, _, _, r, hl, _⟩ := h
    rw [r.length, hl]
  · obtain ⟨W, sto, ds, rfl, wk, r, hl, p⟩ := h
    refine hb cdv A outer s W.h E hr (start N vs) W (env0 N.length ds) sto _ wk (repE_start r) ?_
    have no : ∀ i p, ¬ Own (start N vs) (env0 N.length ds) i p := fun i p => env0_own
    unfold runBody at p
    cases hm : b (env0 N.length ds) sto with
    | nx env' st' => rw [hm] at p; exact fun σ' W' x w' _ => p .non W' (x.ext no) w' .non
    | rt d st' => rw [hm] at p; exact fun v W' x w' r' => p v W' (x.ext no) w' r'
    | bk env' st' => rw [hm] at p; exact p.elim
    | ct env' st' => rw [hm] at p; exact p.elim
    | exc env' c fs st' => rw [hm] at p; exact fun σ' dd W' x w' _ rx => p dd W' (x.ext no) w' rx
    | bad => rw [hm] at p; exact p
end
/-! ### calls -/
section
variable {G : Gx} {k : Nat} {f : Addr} {fd : FuncData} {ps : List Str} {x : Str} {p pos apos : Pos} {e o : Expr} {es : List Expr} {aa : AM} {ma : EM}
/-- a def called with values; dds: the defaults behind them -/
def mCall (n : Nat) (dds : List D) (m : List D → M D) : List D → M D := fun ds st => if ds.length + dds.length = n then m (ds ++ dds) st else .bad
theorem run_def {n : Nat} {sp : Sp} {σ : L2.St} {W : Wd} {vs : List V} {dvs : List V} {dvals : List Value} {Q : VK} (tk : Takes G.X G.E) (F : FnOk G.X.prog G.X.w G.X.K G.X.mg G.X.base (L2.CX G.X.prog G.X.w) k f fd ps sp) (hr : Room k G.X.A) (hb : Binds G.X.K fd ps dvals) (hd : Vals dvs dvals)
    {H : Hp} (h : sp (vs ++ dvs) H Q fun c d H' => G.E c d σ H') : QC G (.ref f) σ vs H Q := by
  intro pins s us I rv
  have r2 : Vals (vs ++ dvs) (us ++ dvals) := rv.append hd
  have hl : (us ++ dvals).length = ps.length := by
    rw [← r2.length]
    exact F.len _ _ _ _ h
  refine wpAny_call (codeAny_mono (F.run G.X.A G.X.stack s H ⟨us, []⟩ _ _ Q _ hr I.env0 (hb s us I.kIn hl) r2 h) fun res s' hq => ?_)
  cases res with
  | error ex => exact tk ex s' (XE.of_call I (fun _ _ _ z => z) hq)
  | ok fl =>
    cases fl with
    | ret u => exact I.after hq
    | next => exact hq.elim
    | brk => exact hq.elim
    | cont => exact hq.elim
theorem call_def {n : Nat} {m : List D → M D} {dvs : List V} {dvals : List Value} {dds : List D} (tk : Takes G.X G.E) (F : FnOk G.X.prog G.X.w G.X.K G.X.mg G.X.base (L2.CX G.X.prog G.X.w) k f fd ps (spM G.X.K G.ca n m)) (hr : Room k G.X.A) (hb : Binds G.X.K fd ps dvals) (hd : Vals dvs dvals)
    (rd : ∀ W, Reps G.X.K G.ca W dvs dds) : CallD G (.ref f) (mCall n dds m) := by
  intro σ W st vs ds Q wk r p
  unfold mCall at p
  split at p
  · rename_i hl
    refine run_def (n := n) (W := W) tk F hr hb hd ⟨W, st, ds ++ dds, rfl, wk, r.append (rd W), by rw [List.length_append]; exact hl, ?_⟩
    exact p
  · exact p.elim
theorem call_def0 {n : Nat} {m : List D → M D} (tk : Takes G.X G.E) (F : FnOk G.X.prog G.X.w G.X.K G.X.mg G.X.base (L2.CX G.X.prog G.X.w) k f fd ps (spM G.X.K G.ca n m)) (hr : Room k G.X.A) (hb : Binds G.X.K fd ps []) : CallD G (.ref f) (mCall n [] m) :=
  call_def tk F hr hb .nil fun _ => .nil
def eCall (g : List D → M D) (a : AM) : EM := fun env st => (a env st).bind g
variable {g : List D → M D}
/-- f(e, ..), f a name of the module that holds a def or a class -/
theorem re_call (hc : CallD G (.ref f) g) (hg : Gl G.X x) (hm : G.X.mg x = some (.ref f)) (hk : PySem.W.keepIn G.X.K (.ref f) = true) (ha : RA G (e :: es) aa)
    (hdb : (x == ("__debug__" : Str)) = false := by decide) (he : starEach (e :: es) G.X.env = (false, eval e G.X.env) :: starEach es G.X.env := by exact starEach_ns rfl) (hpl : (backTo pos (starEach es G.X.env)).any (·.1) = false := by exact plain_ns rfl) :
    RE G (.Call (.Name x p) (e :: es) [] pos) (eCall g aa) := by
  intro σ W env st Q wk re hp pins s I
  refine wpAny_Call_Name_kw (ld_glob I hg hm ?_ hdb)
  refine PySem.W.callWith_K (h₀ := G.X.base) I.ok.mod.kin hk (thn (ha σ W env st (fun vs H => QC G (.ref f) σ vs H Q) wk re (bindAE hp fun ds s1 vs W1 e1 w1 r1 p1 => hc σ W1 s1 vs ds Q w1 r1 p1) pos pins s I) fun us s1 hu => ?_) he hpl
  obtain ⟨vs, H1, I1, r1, q1⟩ := hu
  exact ⟨I1.kIn, q1 pins s1 us I1 r1⟩
theorem re_call0 (hc : CallD G (.ref f) g) (hg : Gl G.X x) (hm : G.X.mg x = some (.ref f)) (hk : PySem.W.keepIn G.X.K (.ref f) = true) (hdb : (x == ("__debug__" : Str)) = false := by decide) :
    RE G (.Call (.Name x p) [] [] pos) (eCall g aNil) := by
  intro σ W env st Q wk re hp pins s I
  refine wpAny_Call_Name_kw (ld_glob I hg hm ?_ hdb)
  exact PySem.W.callWith_K0 I.kIn hk (hc σ W st [] [] Q wk .nil hp pins s [] I .nil)
/-- a builtin by its name -/
theorem re_callB {id : String} (hc : CallD G (.builtin id) g) (hg : Gl G.X x) (hm : G.X.mg x = none) (hv : bootBuiltins x = some (.builtin id)) (ha : RA G (e :: es) aa) (hn : x ≠ "__name__" := by decide) (hdb : (x == ("__debug__" : Str)) = false := by decide)
    (he : starEach (e :: es) G.X.env = (false, eval e G.X.env) :: starEach es G.X.env := by exact starEach_ns rfl) (hpl : (backTo pos (starEach es G.X.env)).any (·.1) = false := by exact plain_ns rfl) : RE G (.Call (.Name x p) (e :: es) [] pos) (eCall g aa) := by
  intro σ W env st Q wk re hp pins s I
  refine wpAny_Call_Name_kw (ld_blt I hg hm hv ?_ hn hdb)
  refine PyProof.Rows.callWith_builtin1 (thn (ha σ W env st (fun vs H => QC G (.builtin id) σ vs H Q) wk re (bindAE hp fun ds s1 vs W1 e1 w1 r1 p1 => hc σ W1 s1 vs ds Q w1 r1 p1) pos pins s I) fun us s1 hu => ?_) he hpl
  obtain ⟨vs, H1, I1, r1, q1⟩ := hu
  exact q1 pins s1 us I1 r1
theorem re_callTy {T : String} (hc : CallD G (.type T) g) (hg : Gl G.X x) (hm : G.X.mg x = none) (hv : bootBuiltins x = some (.type T)) (ha : RA G (e :: es) aa) (hn : x ≠ "__name__" := by decide) (hdb : (x == ("__debug__" : Str)) = false := by decide)
    (he : starEach (e :: es) G.X.env = (false, eval e G.X.env) :: starEach es G.X.env := by exact starEach_ns rfl) (hpl : (backTo pos (starEach es G.X.env)).any (·.1) = false := by exact plain_ns rfl) : RE G (.Call (.Name x p) (e :: es) [] pos) (eCall g aa) := by
  intro σ W env st Q wk re hp pins s I
  refine wpAny_Call_Name_kw (ld_blt I hg hm hv ?_ hn hdb)
  refine PyProof.Rows.callWith_type1 (thn (ha σ W env st (fun vs H => QC G (.type T) σ vs H Q) wk re (bindAE hp fun ds s1 vs W1 e1 w1 r1 p1 => hc σ W1 s1 vs ds Q w1 r1 p1) pos pins s I) fun us s1 hu => ?_) he hpl
  obtain ⟨vs, H1, I1, r1, q1⟩ := hu
  exact q1 pins s1 us I1 r1
/-- the same where a new list comes -/
def CallL (G : Gx) (fv : Value) (f : List D → M (List D)) : Prop := ∀ σ W st xs ds Q, WOk G.X.K G.ca W st → Reps G.X.K G.ca W xs ds → PostL G W σ (f ds st) Q → QC G fv σ xs W.h Q
def lCall (g : List D → M (List D)) (a : AM) : AM := fun env st => (a env st).bind g
theorem rl_callTy {T : String} {g : List D → M (List D)} (hc : CallL G (.type T) g) (hg : Gl G.X x) (hm : G.X.mg x = none) (hv : bootBuiltins x = some (.type T)) (ha : RA G (e :: es) aa) (hn : x ≠ "__name__" := by decide) (hdb : (x == ("__debug__" : Str)) = false := by decide)
    (he : starEach (e :: es) G.X.env = (false, eval e G.X.env) :: starEach es G.X.env := by exact starEach_ns rfl) (hpl : (backTo pos (starEach es G.X.env)).any (·.1) = false := by exact plain_ns rfl) : RL G (.Call (.Name x p) (e :: es) [] pos) (lCall g aa) := by
  intro σ W env st Q wk re hp pins s I
  refine wpAny_Call_Name_kw (ld_blt I hg hm hv ?_ hn hdb)
  refine PyProof.Rows.callWith_type1 (thn (ha σ W env st (fun vs H => QC G (.type T) σ vs H Q) wk re (bindAL hp fun ds s1 vs W1 e1 w1 r1 p1 => hc σ W1 s1 vs ds Q w1 r1 p1) pos pins s I) fun us s1 hu => ?_) he hpl
  obtain ⟨vs, H1, I1, r1, q1⟩ := hu
  exact q1 pins s1 us I1 r1
end
/-! ### instances -/
def clsOf (d : D) (st : Sto) : Option (Nat × Fs) := match d with
  | .ins c fs => some (c, fs)
  | .cell n => match st[n]? with
    | some (.ins c fs) => some (c, fs)
    | _ => none
  | _ => none
theorem clsOf_at {K : PySem.W.Frag} {ca : Nat → Addr} {W : Wd} {st : Sto} {x : V} {d : D} {c : Nat} {fs : Fs} (wk : WOk K ca W st) (r : Rep K ca W x d) (h : clsOf d st = some (c, fs)) : ∃ a dx ws, x = .ref a ∧ W.h a = some (.ins (ca c) dx ws) ∧ RepF K ca W ws fs := by
  cases r with
  | ins n hh rf => cases h; exact ⟨_, _, _, rfl, hh, rf⟩
  | cell hg =>
    rename_i n p
    unfold clsOf at h
    dsimp only at h
    cases e : st[n]? with
    | none => rw [e] at h; cases h
    | some cl =>
      rw [e] at h
      cases cl with
      | ins c' fs' =>
        cases h
        obtain ⟨dx, ws, h1, h2⟩ := wk.cell n p _ hg e
        exact ⟨p, dx, ws, rfl, h1, h2⟩
      | lst _ => cases h
      | dk _ => cases h
      | tab _ _ => cases h
  | _ => cases h
section
variable {G : Gx} {f : Addr} {p pos apos : Pos} {e o : Expr} {es : List Expr} {aa : AM} {ma : EM} {name : Str}
/-- a method of the class c -/
structure MOk (G : Gx) (name : Str) (c : Nat) (g : List D → M D) : Prop where
  cl : Cls G.X.K (G.ca c)
  me : ∃ f, Meth G.X.K (G.ca c) name f ∧ CallD G (.ref f) g
def MsOk (G : Gx) (name : Str) (tab : List (Nat × (List D → M D))) : Prop := ∀ c g, tab.lookup c = some g → MOk G name c g
theorem ms_nil : MsOk G name [] := fun c g h => by cases h
theorem ms_cons {c : Nat} {g : List D → M D} {tab : List (Nat × (List D → M D))} (h : MOk G name c g) (t : MsOk G name tab) : MsOk G name ((c, g) :: tab) := fun c' g' e => by
  rw [List.lookup_cons] at e
  cases q : c' == c with
  | true =>
    rw [q] at e
    cases e
    rw [beq_iff_eq.mp q]
    exact h
  | false => rw [q] at e; exact t c' g' e
def eMeth (tab : List (Nat × (List D → M D))) (name : Str) (o : EM) (a : AM) : EM := fun env st => (o env st).bind fun x s1 => match clsOf x s1 with
  | some (c, fs) => (match fs.lookup name, tab.lookup c with
    | none, some g => (a env s1).bind fun ds s2 => g (x :: ds) s2
    | _, _ => .bad)
  | none => .bad
theorem re_meth {tab : List (Nat × (List D → M D))} {pl : Sem Bool} (ho : RE G o ma) (ht : MsOk G name tab) (ha : RA G (e :: es) aa)
    (hst : starEach (e :: es) G.X.env = (false, eval e G.X.env) :: starEach es G.X.env := by exact starEach_ns rfl) (hpl : (backTo pos (starEach es G.X.env)).any (·.1) = false := by exact plain_ns rfl)
    (hev : eval (.Call (.Attribute o name apos) (e :: es) [] pos) G.X.env = (do
      let ov ← eval o G.X.env
      standAt apos.atName
      let (f, first) ← holding [ov] (getMethod ov name pl)
      callWith pos f first (backTo pos (starEach (e :: es) G.X.env)) (backToKw pos (keywordEach [] G.X.env))) := by rfl) :
    RE G (.Call (.Attribute o name apos) (e :: es) [] pos) (eMeth tab name ma aa) := by
  intro σ W env st Q wk re hp pins s I
  refine PySem.W.methodCall_KW (pl := pl) (thn (ho σ W env st (fun x H => ∃ (c : Nat) (f a dx : Addr) (ws : List (Str × V)), x = .ref a ∧ H a = some (.ins (G.ca c) dx ws) ∧ ws.lookup name = none ∧ Cls G.X.K (G.ca c) ∧ Meth G.X.K (G.ca c) name f ∧
    QA G (e :: es) σ H fun vs H2 => QC G (.ref f) σ (x :: vs) H2 Q) wk re (bindEE hp fun d s1 x W1 e1 w1 r1 p1 => ?_) pins s I) fun u s1 hu => ?_) hev
  · cases hc : clsOf d s1 with
    | none => rw [hc] at p1; exact p1.elim
    | some cf =>
      obtain ⟨c, fs⟩ := cf
      rw [hc] at p1
      dsimp only at p1
      cases hl : fs.lookup name with
      | some _ => rw [hl] at p1; exact p1.elim
      | none =>
        rw [hl] at p1
        cases hg : tab.lookup c with
        | none => rw [hg] at p1; exact p1.elim
        | some g =>
          rw [hg] at p1
          obtain ⟨a, dx, ws, rfl, ha1, rf⟩ := clsOf_at w1 r1 hc
          obtain ⟨cl, f, hm, hcd⟩ := ht c g hg
          refine ⟨c, f, a, dx, ws, rfl, ha1, rf.none hl, cl, hm, ?_⟩
          refine ha σ W1 env s1 _ w1 (re.mono e1) (bindAE p1 fun ds s2 vs W2 e2 w2 r2 p2 => ?_)
          exact hcd σ W2 s2 _ _ Q w2 (.cons (r1.mono e2) r2) p2
  · obtain ⟨x, H1, I1, rx, c, f, a, dx, ws, rfl, ea, l, cl, hm, q⟩ := hu
    obtain rfl : u = Value.ref a := rx
    refine getmeth_ok I1 ea cl hm l ?_
    refine PySem.W.callWith_K (first := [.ref a]) (h₀ := G.X.base) I.ok.mod.kin hm.kp (thn (q pos pins s1 I1) fun us s2 hv => ?_) hst hpl
    obtain ⟨vs, H2, I2, r2, q2⟩ := hv
    exact ⟨I2.kIn, q2 pins s2 (.ref a :: us) I2 (.cons rfl r2)⟩
theorem re_meth0 {tab : List (Nat × (List D → M D))} {pl : Sem Bool} (ho : RE G o ma) (ht : MsOk G name tab)
    (hev : eval (.Call (.Attribute o name apos) [] [] pos) G.X.env = (do
      let ov ← eval o G.X.env
      standAt apos.atName
      let (f, first) ← holding [ov] (getMethod ov name pl)
      callWith pos f first (backTo pos (starEach [] G.X.env)) (backToKw pos (keywordEach [] G.X.env))) := by rfl) :
    RE G (.Call (.Attribute o name apos) [] [] pos) (eMeth tab name ma aNil) := by
  intro σ W env st Q wk re hp pins s I
  refine PySem.W.methodCall_KW (pl := pl) (thn (ho σ W env st (fun x H => ∃ (c : Nat) (f a dx : Addr) (ws : List (Str × V)), x = .ref a ∧ H a = some (.ins (G.ca c) dx ws) ∧ ws.lookup name = none ∧ Cls G.X.K (G.ca c) ∧ Meth G.X.K (G.ca c) name f ∧
    QC G (.ref f) σ [x] H Q) wk re (bindEE hp fun d s1 x W1 e1 w1 r1 p1 => ?_) pins s I) fun u s1 hu => ?_) hev
  · cases hc : clsOf d s1 with
    | none => rw [hc] at p1; exact p1.elim
    | some cf =>
      obtain ⟨c, fs⟩ := cf
      rw [hc] at p1
      dsimp only at p1
      cases hl : fs.lookup name with
      | some _ => rw [hl] at p1; exact p1.elim
      | none =>
        rw [hl] at p1
        cases hg : tab.lookup c with
        | none => rw [hg] at p1; exact p1.elim
        | some g =>
          rw [hg] at p1
          obtain ⟨a, dx, ws, rfl, ha1, rf⟩ := clsOf_at w1 r1 hc
          obtain ⟨cl, f, hm, hcd⟩ := ht c g hg
          exact ⟨c, f, a, dx, ws, rfl, ha1, rf.none hl, cl, hm, hcd σ W1 s1 _ _ Q w1 (.cons r1 .nil) p1⟩
  · obtain ⟨x, H1, I1, rx, c, f, a, dx, ws, rfl, ea, l, cl, hm, q⟩ := hu
    obtain rfl : u = Value.ref a := rx
    refine getmeth_ok I1 ea cl hm l ?_
    exact PySem.W.callWith_K0 (first := [.ref a]) I1.kIn hm.kp (q pins s1 [.ref a] I1 (.cons rfl .nil))
/-- o.f, f a field; cs: the classes that have it -/
def eFld (cs : List Nat) (f : Str) (o : EM) : EM := fun env st => (o env st).bind fun x s1 => match clsOf x s1 with
  | some (c, fs) => if cs.contains c = true then (match fs.lookup f with
    | some d => .ok d s1
    | none => .bad) else .bad
  | none => .bad
def FldOk (G : Gx) (cs : List Nat) (f : Str) : Prop := ∀ c ∈ cs, Cls G.X.K (G.ca c) ∧ NoAttr G.X.K (G.ca c) f
theorem fo_nil {f : Str} : FldOk G [] f := fun c h => by cases h
theorem fo_cons {c : Nat} {cs : List Nat} {f : Str} (h1 : Cls G.X.K (G.ca c)) (h2 : NoAttr G.X.K (G.ca c) f) (t : FldOk G cs f) : FldOk G (c :: cs) f := fun c' h => by
  rcases List.mem_cons.mp h with e | e
  · subst e; exact ⟨h1, h2⟩
  · exact t c' e
theorem re_fld {cs : List Nat} {f : Str} (hf : FldOk G cs f) (ho : RE G o ma) (hb : attributeBase o f G.X.env (eval o G.X.env) = eval o G.X.env := by first | exact abase_ns rfl | rfl) : RE G (.Attribute o f pos) (eFld cs f ma) := by
  intro σ W env st Q wk re hp
  refine qe_of (pe_fld pe_q hb) ?_
  refine ho σ W env st _ wk re (bindEE hp fun d s1 x W1 e1 w1 r1 p1 => ?_)
  cases hc : clsOf d s1 with
  | none => rw [hc] at p1; exact p1.elim
  | some cf =>
    obtain ⟨c, fs⟩ := cf
    rw [hc] at p1
    dsimp only at p1
    split at p1
    · rename_i hcs
      cases hl : fs.lookup f with
      | none => rw [hl] at p1; exact p1.elim
      | some d2 =>
        rw [hl] at p1
        obtain ⟨a, dx, ws, rfl, ha1, rf⟩ := clsOf_at w1 r1 hc
        obtain ⟨h1, h2⟩ := hf c (by simpa using hcs)
        obtain ⟨v, h3, h4⟩ := rf.look hl
        exact ⟨a, _, dx, ws, v, rfl, ha1, h1, h2, h3, p1 v W1 (Ext.refl W1) w1 h4⟩
    · exact p1.elim
end
end Mi
/-! MiOwn: worlds written, owned slots, cells, comprehensions, instances made. -/
namespace Mi
open PySem PySem.Spec PyProof.Rows L2
section
variable {K : PySem.W.Frag} {ca : Nat → Addr} {xc : XC} {W : Wd} {σ : L2.St} {env : En} {st : Sto} {p : Addr} {o : HO}
theorem Wd.wr_kp (W : Wd) {p : Addr} {o : HO} (hp : W.h p ≠ none) (hv : W.av p) : Kp W (W.wr p o hp) where
  keep := fun q u n h => by
    have ne : q ≠ p := fun e => by subst e; exact n hv
    show upd W.h p o q = some u
    rw [upd_ne ne]; exact h
  new := fun q h => .inl h
  stay := fun q h => by
    have h : upd W.h p o q = none := h
    by_cases e : q = p
    · subst e; rw [upd_same] at h; cases h
    · rw [upd_ne e] at h; exact h
  pre := ⟨[], by show W.g = W.g ++ []; simp, fun _ h => by simp at h⟩
theorem WOk.wr (w : WOk K ca W st) (hp : W.h p ≠ none) (hv : W.av p) (hg : p ∉ W.g) : WOk K ca (W.wr p o hp) st := w.kp (W.wr_kp hp hv) rfl fun q hq => by
  show upd W.h p o q = W.h q
  rw [upd_ne (fun e => by subst e; exact hg hq)]
/-- a slot's own thing is written -/
theorem own_wr {i : Nat} {s : Slot} (re : RepE K ca xc W σ env) (ho : Own σ env i p) (hg : p ∉ W.g) (hp : W.h p ≠ none) (hv : W.av p) (hs : s.isO = true)
    (hL : ∀ ds, s = .oL ds → ∃ xs, o = .lst xs ∧ Reps K ca W xs ds) (hI : ∀ c fs, s = .oI c fs → (∃ c' fs', env[i]? = some (.oI c' fs')) ∧ ∃ dx ws, o = .ins (ca c) dx ws ∧ RepF K ca W ws fs) :
    RepE K ca xc (W.wr p o hp) σ (env.set i s) ∧ ExtS W σ env (W.wr p o hp) σ (env.set i s) := by
  have k := W.wr_kp (o := o) hp hv
  have oback : ∀ j q, Own σ (env.set i s) j q → Own σ env j q := fun j q ⟨h1, t, h2, h3⟩ => by
    by_cases e : i = j
    · subst e
      obtain ⟨_, t', h2', h3'⟩ := ho
      exact ⟨h1, t', h2', h3'⟩
    · rw [List.getElem?_set_ne e] at h2
      exact ⟨h1, t, h2, h3⟩
  have hi : i < env.length := by
    obtain ⟨_, t, h, _⟩ := ho
    exact (List.getElem?_eq_some_iff.mp h).1
  have far : ∀ j q, i ≠ j → Own σ env j q → (W.wr p o hp).h q = W.h q := fun j q ne hq => by
    have nq : q ≠ p := fun e => by subst e; exact ne (re.sep i j q ho hq)
    show upd W.h p o q = W.h q
    rw [upd_ne nq]
  refine ⟨⟨by rw [List.length_set]; exact re.len, fun j d h => ?_, fun j ds h => ?_, fun j c fs h => ?_, fun j c fs h => ?_, fun a b q h1 h2 => re.sep a b q (oback _ _ h1) (oback _ _ h2)⟩, ⟨k.keep, fun q h1 h2 h3 => ?_, k.new, k.stay, k.pre, fun j q h => .inl ⟨j, oback j q h⟩, fun j q h => ?_⟩⟩
  · by_cases e : i = j
    · subst e
      rw [List.getElem?_set_self hi] at h
      cases h
      cases hs
    · rw [List.getElem?_set_ne e] at h
      obtain ⟨v, h1, h2⟩ := re.sh j d h
      exact ⟨v, h1, h2.kp k⟩
  · by_cases e : i = j
    · subst e
      rw [List.getElem?_set_self hi] at h
      obtain ⟨xs, e1, r⟩ := hL ds (Option.some.inj h)
      exact ⟨p, xs, ho.1, hv, hg, by show upd W.h p o p = _; rw [upd_same, e1], r.kp k⟩
    · rw [List.getElem?_set_ne e] at h
      obtain ⟨q, xs, h1, h2, h3, h4, h5⟩ := re.oL j ds h
      exact ⟨q, xs, h1, h2, h3, (far j q e ⟨h1, _, h, rfl⟩).trans h4, h5.kp k⟩
  · by_cases e : i = j
    · subst e
      rw [List.getElem?_set_self hi] at h
      obtain ⟨_, dx, ws, e1, r⟩ := hI c fs (Option.some.inj h)
      exact ⟨p, dx, ws, ho.1, hv, hg, by show upd W.h p o p = _; rw [upd_same, e1], r.kp k⟩
    · rw [List.getElem?_set_ne e] at h
      obtain ⟨q, dx, ws, h1, h2, h3, h4, h5⟩ := re.oI j c fs h
      exact ⟨q, dx, ws, h1, h2, h3, (far j q e ⟨h1, _, h, rfl⟩).trans h4, h5.kp k⟩
  · by_cases e : i = j
    · subst e
      rw [List.getElem?_set_self hi] at h
      cases h
      cases hs
    · rw [List.getElem?_set_ne e] at h
      obtain ⟨a, d, h1, h2, h3⟩ := re.ex j c fs h
      exact ⟨a, d, h1, h2, h3.kp k⟩
  · have nq : q ≠ p := fun e => by subst e; exact h3 i ho
    refine ⟨?_, h1⟩
    show upd W.h p o q = W.h q
    rw [upd_ne nq]
  · obtain ⟨g1, c, fs, g2⟩ := h
    by_cases e : i = j
    · subst e
      rw [List.getElem?_set_self hi] at g2
      obtain ⟨⟨c', fs', g3⟩, _⟩ := hI c fs (Option.some.inj g2)
      exact ⟨i, g1, c', fs', g3⟩
    · rw [List.getElem?_set_ne e] at g2
      exact ⟨j, g1, c, fs, g2⟩
/-- a cell is written -/
theorem cell_wr {n : Nat} {c : Cl} (w : WOk K ca W st) (hn : W.g[n]? = some p) (hp : W.h p ≠ none) (hc : CellOk K ca (W.wr p o hp) p c) : Ext W (W.wr p o hp) ∧ WOk K ca (W.wr p o hp) (st.set n c) := by
  have hg : p ∈ W.g := List.mem_of_getElem? hn
  have hv := W.gav p hg
  have k := W.wr_kp (o := o) hp hv
  refine ⟨⟨k.keep, fun q h1 h2 => ?_, fun _ h => h, k.new, k.stay, k.pre⟩, ⟨w.nd, ?_, fun m q d h1 h2 => ?_⟩⟩
  · have nq : q ≠ p := fun e => by subst e; exact h2 hg
    show upd W.h p o q = W.h q
    rw [upd_ne nq]
  · rw [List.length_set]; exact w.len
  · have h1 : W.g[m]? = some q := h1
    by_cases e : n = m
    · subst e
      rw [hn] at h1
      cases h1
      by_cases hl : n < st.length
      · rw [List.getElem?_set_self hl] at h2
        cases h2
        exact hc
      · rw [List.getElem?_eq_none (by simpa using hl)] at h2
        cases h2
    · rw [List.getElem?_set_ne e] at h2
      have nq : q ≠ p := fun z => by
        subst z
        exact e (nd_ix w.nd hn h1)
      refine (w.cell m q d h1 h2).kp k ?_
      show upd W.h p o q = W.h q
      rw [upd_ne nq]
end
/-! ### a new list: owned by a slot, or a cell -/
def sOwn (i : Nat) (m : AM) : SM := fun env st => (m env st).go env fun ds s => .nx (env.set i (.oL ds)) s
def eCel (m : AM) : EM := fun env st => (m env st).bind fun ds s => .ok (.cell s.length) (s ++ [.lst ds])
def RdE (G : Gx) (t : TE) (m : EM) : Prop := ∀ σ W env st Q, WOk G.X.K G.ca W st → RepE G.X.K G.ca G.xc W σ env → Post G W σ (m env st) Q → t σ W.h Q
def RdL (G : Gx) (t : TE) (m : AM) : Prop := ∀ σ W env st Q, WOk G.X.K G.ca W st → RepE G.X.K G.ca G.xc W σ env → PostL G W σ (m env st) Q → t σ W.h Q
theorem RdL.e {G : Gx} {t : TE} {m : AM} (h : RdL G t m) : RdE G t (eL m) := by
  intro σ W env st Q w re p
  refine h σ W env st Q w re ?_
  unfold eL at p
  cases hm : m env st with
  | ok ds s1 =>
    rw [hm] at p
    exact fun q xs W' e1 n _ ng hh w1 r1 => p (.ref q) (W'.drop q ng) (Wd.drop_ext e1 n ng) (w1.drop ng) (.lst (fun z => z.2 rfl) hh (r1.kp (W'.drop_kp ng)))
  | exc c fs s1 => rw [hm] at p; exact p
  | bad => rw [hm] at p; exact p
/-- an owned thing becomes a cell -/
theorem Wd.cel_ext {W W1 : Wd} {p : Addr} (e : Ext W W1) (n : W.h p = none) (hp : W1.h p ≠ none) : Ext W (W1.cel p hp) where
  keep := e.keep
  own := e.own
  av := fun q h => .inl (e.av q h)
  new := fun q h => by
    rcases h with h | h
    · exact e.new q h
    · subst h; exact .inr n
  stay := e.stay
  pre := by
    obtain ⟨l, h1, h2⟩ := e.pre
    refine ⟨l ++ [p], by show W1.g ++ [p] = _; rw [h1, List.append_assoc], fun q hq => ?_⟩
    rcases List.mem_append.mp hq with z | z
    · exact h2 q z
    · have : q = p := by simpa using z
      subst this; exact n
theorem Wd.cel_kw {W : Wd} {p : Addr} (hv : W.av p) (hp : W.h p ≠ none) : Kw W (W.cel p hp) :=
  ⟨fun _ _ _ h => h, fun q h => h.elim .inl fun z => by subst z; exact .inl hv, [p], rfl⟩
theorem CellOk.kw {K : PySem.W.Frag} {ca : Nat → Addr} {W W' : Wd} {p : Addr} {c : Cl} (e : Kw W W') (hh : W'.h p = W.h p) (h : CellOk K ca W p c) : CellOk K ca W' p c := by
  cases c with
  | lst ds =>
    obtain ⟨xs, h1, h2⟩ := h
    exact ⟨xs, hh.trans h1, h2.kw e⟩
  | ins c gs =>
    obtain ⟨dx, fs, h1, h2⟩ := h
    exact ⟨dx, fs, hh.trans h1, h2.kw e⟩
  | dk kvs =>
    obtain ⟨ws, h1, h2⟩ := h
    exact ⟨ws, hh.trans h1, Paired.mapP h2 fun a b z => ⟨z.1, z.2.kw e⟩⟩
  | tab n q => exact ⟨h.1, h.2.kw e hh⟩
theorem WOk.cel {K : PySem.W.Frag} {ca : Nat → Addr} {W : Wd} {st : Sto} {p : Addr} {c : Cl} (w : WOk K ca W st) (hv : W.av p) (ng : p ∉ W.g) (hp : W.h p ≠ none) (hc : CellOk K ca W p c) : WOk K ca (W.cel p hp) (st ++ [c]) where
  nd := by
    show (W.g ++ [p]).Nodup
    rw [List.nodup_append]
    refine ⟨w.nd, by simp, fun a ha b hb e => ?_⟩
    have : b = p := by simpa using hb
    rw [this] at e
    rw [e] at ha
    exact ng ha
  len := by
    show (W.g ++ [p]).length = _
    rw [List.length_append, List.length_append, w.len]; rfl
  cell := fun n q d h1 h2 => by
    have h1 : (W.g ++ [p])[n]? = some q := h1
    by_cases hn : n < W.g.length
    · rw [List.getElem?_append_left hn] at h1
      rw [List.getElem?_append_left (by rw [← w.len]; exact hn)] at h2
      exact (w.cell n q d h1 h2).kw (Wd.cel_kw hv hp) rfl
    · rw [List.getElem?_append_right (by omega)] at h1
      rw [List.getElem?_append_right (by rw [← w.len]; omega)] at h2
      have e0 : n - W.g.length = 0 := by
        cases z : n - W.g.length with
        | zero => rfl
        | succ j => rw [z] at h1; simp at h1
      have e1 : n - st.length = 0 := by rw [← w.len]; exact e0
      rw [e0] at h1
      rw [e1] at h2
      cases h1
      cases h2
      exact hc.kw (Wd.cel_kw hv hp) rfl
/-- a new list as a cell -/
theorem RdL.c {G : Gx} {t : TE} {m : AM} (h : RdL G t m) : RdE G t (eCel m) := by
  intro σ W env st Q w re p
  refine h σ W env st Q w re ?_
  unfold eCel at p
  cases hm : m env st with
  | ok ds s1 =>
    rw [hm] at p
    intro q xs W1 e1 n hv ng hh w1 r1
    have hp : W1.h q ≠ none := by rw [hh]; exact fun z => by cases z
    refine p (.ref q) (W1.cel q hp) (Wd.cel_ext e1 n hp) (w1.cel hv ng hp ⟨xs, hh, r1⟩) (.cell ?_)
    show (W1.g ++ [q])[s1.length]? = some q
    rw [← w1.len, List.getElem?_append_right (Nat.le_refl _), Nat.sub_self]
    rfl
  | exc c fs s1 => rw [hm] at p; exact p
  | bad => rw [hm] at p; exact p
section
variable {G : Gx} {t : TE} {m : AM} {stm : Stmt} {i : Nat} {ma : EM} {e : Expr}
/-- name = e, by any rule of the layer that stores into slot i -/
theorem rs_asg (hps : PS G.X stm (tAsg t (gName i))) (h : RdE G t ma) : RS G stm (sSet i ma) := by
  intro σ W env st Dn w re p
  refine qs_of hps ?_
  exact h σ W env st _ w re (bindES re p fun d s1 v W1 e1 w1 r1 re1 p1 => p1 (σ.set i (some v)) W1 (ExtS.set W1 σ env rfl) w1 (re1.set r1))
/-- name = a new list, which the slot owns -/
theorem rs_own (hps : PS G.X stm (tAsg t (gName i))) (h : RdL G t m) : RS G stm (sOwn i m) := by
  intro σ W env st Dn w re p
  refine qs_of hps ?_
  refine h σ W env st _ w re ?_
  unfold sOwn at p
  cases hm : m env st with
  | bad => rw [hm] at p; exact p
  | exc c fs s1 => rw [hm] at p; exact fun dd W2 e1 w1 x => p σ dd W2 (e1.s σ env) w1 (re.mono e1) x
  | ok ds s1 =>
    rw [hm] at p
    intro q xs W1 e1 n hv ng hh w1 r1
    have re1 := re.mono e1
    have ob : ∀ j a, Own (σ.set i (some (.ref q))) (env.set i (.oL ds)) j a → (j = i ∧ a = q) ∨ (j ≠ i ∧ Own σ env j a) := fun j a ⟨h1, t, h2, h3⟩ => by
      by_cases e : i = j
      · subst e
        have hj : i < σ.length := by
          rcases Nat.lt_or_ge i σ.length with z | z
          · exact z
          · rw [List.getElem?_eq_none (by simpa using z)] at h1; cases h1
        rw [List.getElem?_set_self hj] at h1
        cases h1
        exact .inl ⟨rfl, rfl⟩
      · rw [List.getElem?_set_ne e] at h1 h2
        exact .inr ⟨fun z => e z.symm, h1, t, h2, h3⟩
    have hold : ∀ j a, Own σ env j a → W.h a ≠ none := fun j a ⟨h1, t, h2, h3⟩ => by
      cases t with
      | oL ds' =>
        obtain ⟨a', xs', g1, g2, _⟩ := re.oL j ds' h2
        rw [h1] at g1; cases g1
        exact W.trk a g2
      | oI c fs =>
        obtain ⟨a', dx, ws, g1, g2, _⟩ := re.oI j c fs h2
        rw [h1] at g1; cases g1
        exact W.trk a g2
      | no => cases h3
      | sh d => cases h3
      | ex c fs => cases h3
    refine p (σ.set i (some (.ref q))) W1 ⟨e1.keep, fun a h1 h2 _ => ⟨e1.own a h1 h2, e1.av a h1⟩, e1.new, e1.stay, e1.pre, fun j a ha => ?_, fun j a ha => ?_⟩ w1 ⟨by rw [List.length_set, List.length_set]; exact re.len, fun j d hj => ?_, fun j ds' hj => ?_, fun j c fs hj => ?_, fun j c fs hj => ?_, fun a b x h1 h2 => ?_⟩
    · rcases ob j a ha with ⟨_, rfl⟩ | ⟨_, ha⟩
      · exact .inr n
      · exact .inl ⟨j, ha⟩
    · obtain ⟨g1, c, fs, g2⟩ := ha
      rcases ob j a ⟨g1, _, g2, rfl⟩ with ⟨e1', e2'⟩ | ⟨ne, _⟩
      · subst e1'
        have hl : j < env.length := by
          rcases Nat.lt_or_ge j env.length with z | z
          · exact z
          · rw [List.getElem?_eq_none (by simpa using z)] at g2; cases g2
        rw [List.getElem?_set_self hl] at g2
        cases g2
      · rw [List.getElem?_set_ne (Ne.symm ne)] at g1 g2
        exact ⟨j, g1, c, fs, g2⟩
    · by_cases e : i = j
      · subst e
        have hl : i < env.length := by
          rcases Nat.lt_or_ge i env.length with z | z
          · exact z
          · rw [List.getElem?_eq_none (by simpa using z)] at hj; cases hj
        rw [List.getElem?_set_self hl] at hj
        cases hj
      · rw [List.getElem?_set_ne e] at hj ⊢
        exact re1.sh j d hj
    · by_cases e : i = j
      · subst e
        have hl : i < env.length := by
          rcases Nat.lt_or_ge i env.length with z | z
          · exact z
          · rw [List.getElem?_eq_none (by simpa using z)] at hj; cases hj
        rw [List.getElem?_set_self hl] at hj
        cases hj
        exact ⟨q, xs, by rw [List.getElem?_set_self (by rw [re.len]; exact hl)], hv, ng, hh, r1⟩
      · rw [List.getElem?_set_ne e] at hj ⊢
        exact re1.oL j ds' hj
    · by_cases e : i = j
      · subst e
        have hl : i < env.length := by
          rcases Nat.lt_or_ge i env.length with z | z
          · exact z
          · rw [List.getElem?_eq_none (by simpa using z)] at hj; cases hj
        rw [List.getElem?_set_self hl] at hj
        cases hj
      · rw [List.getElem?_set_ne e] at hj ⊢
        exact re1.oI j c fs hj
    · by_cases e : i = j
      · subst e
        have hl : i < env.length := by
          rcases Nat.lt_or_ge i env.length with z | z
          · exact z
          · rw [List.getElem?_eq_none (by simpa using z)] at hj; cases hj
        rw [List.getElem?_set_self hl] at hj
        cases hj
      · rw [List.getElem?_set_ne e] at hj ⊢
        exact re1.ex j c fs hj
    · rcases ob a x h1 with ⟨e1', e2⟩ | ⟨_, o1⟩
      · rcases ob b x h2 with ⟨e3, _⟩ | ⟨_, o2⟩
        · exact e1'.trans e3.symm
        · subst e2
          exact absurd n (hold b x o2)
      · rcases ob b x h2 with ⟨_, e2⟩ | ⟨_, o2⟩
        · subst e2
          exact absurd n (hold a x o1)
        · exact re.sep a b x o1 o2
end
end Mi
/-! MiComp: list comprehensions; lists, tuples, texts, ranges walked. -/
namespace Mi
open PySem PySem.Spec PyProof.Rows L2
/-! ### slots forgotten -/
def wipeE (env : En) : List Nat → En
  | [] => env
  | v :: vs => (wipeE env vs).set v .no
theorem RepE.wipe {K : PySem.W.Frag} {ca : Nat → Addr} {xc : XC} {W : Wd} {σ : L2.St} {env : En} (r : RepE K ca xc W σ env) : ∀ vs : List Nat, RepE K ca xc W (L2.wipe σ vs) (wipeE env vs)
  | [] => r
  | v :: vs => (RepE.wipe r vs).wipe1
theorem wipe_out {τ : L2.St} {k : Nat} : ∀ {vs : List Nat}, k ∉ vs → (L2.wipe τ vs)[k]? = τ[k]?
  | [], _ => rfl
  | v :: vs, h => by
    have h1 : v ≠ k := fun e => h (by rw [e]; exact List.mem_cons_self)
    have h2 : k ∉ vs := fun e => h (List.mem_cons_of_mem _ e)
    unfold L2.wipe
    rw [List.getElem?_set_ne h1]
    exact wipe_out h2
theorem wipe_in {τ : L2.St} {k : Nat} (hk : k < τ.length) : ∀ {vs : List Nat}, k ∈ vs → (L2.wipe τ vs)[k]? = some none
  | [], h => by cases h
  | v :: vs, h => by
    unfold L2.wipe
    by_cases e : v = k
    · subst e
      rw [List.getElem?_set_self (by rw [L2.wipe_length]; exact hk)]
    · rw [List.getElem?_set_ne e]
      rcases List.mem_cons.mp h with z | z
      · exact absurd z.symm e
      · exact wipe_in hk z
theorem wipe_dif {σ τ : L2.St} {js vs : List Nat} (hj : ∀ j ∈ js, j ∈ vs) (d : Dif js (L2.wipe σ vs) τ) : L2.wipe τ vs = L2.wipe σ vs := by
  have hl : τ.length = σ.length := d.1.trans (L2.wipe_length σ vs)
  apply List.ext_getElem?
  intro k
  by_cases hk : k ∈ vs
  · by_cases hn : k < σ.length
    · rw [wipe_in (by rw [hl]; exact hn) hk, wipe_in hn hk]
    · rw [List.getElem?_eq_none (by rw [L2.wipe_length]; omega), List.getElem?_eq_none (by rw [L2.wipe_length]; omega)]
  · rw [wipe_out hk]
    exact d.2 k fun z => hk (hj k z)
/-! ### the loop of a comprehension -/
def compLoop (tg : TgM) (tst : TM) (elt : EM) (env : En) : List D → List D → M (List D)
  | [], acc, st => .ok acc st
  | d :: ds, acc, st => match tg d env with
    | none => .bad
    | some env1 => match tst env1 st with
      | .ok k s1 => if k = true then (match elt env1 s1 with
          | .ok y s2 => if acc.length < LIM then compLoop tg tst elt env ds (acc ++ [y]) s2 else .bad
          | _ => .bad) else compLoop tg tst elt env ds acc s1
      | _ => .bad
def lComp (it : AM) (tg : TgM) (tst : TM) (elt : EM) (vs : List Nat) : AM := fun env st => (it env st).bind fun ds s => compLoop tg tst elt (wipeE env vs) ds [] s
def tYesM : TM := fun _ st => .ok true st
/-- the context of a comprehension's block -/
abbrev Gx.blk (G : Gx) (s : Shared) (H : Hp) (scope : Scope) (C : Addr) (cl : List (Str × Addr)) (fp : List Addr) : Gx where
  X := G.X.blk s H scope (compEnvC scope cl C G.X.env) fp
  ca := G.ca
  E := fun _ _ _ _ => False
  xc := G.xc
def QTs (G : Gx) (ifs : List Expr) (σ : L2.St) (H : Hp) (Q : Bool → Hp → Prop) : Prop := ∃ t, PTs G.X ifs t ∧ t σ H Q
theorem pts_q {G : Gx} {ifs : List Expr} : PTs G.X ifs (QTs G ifs) := ⟨fun pins s σ H Q I ⟨_, ht, q⟩ => ht.run pins s σ H Q I q⟩
def RTs (G : Gx) (ifs : List Expr) (m : TM) : Prop := ∀ σ W env st Q, WOk G.X.K G.ca W st → RepE G.X.K G.ca G.xc W σ env → PostT G W σ (m env st) Q → QTs G ifs σ W.h Q
theorem rts_nil {G : Gx} : RTs G [] tYesM := fun σ W env st Q w re p => ⟨tYes, pts_nil, p W (Ext.refl W) w⟩
theorem rts_one {G : Gx} {c : Expr} {m : TM} (h : RT G c m) : RTs G [c] m := fun σ W env st Q w re p => ⟨QT G c, pts_one pt_q, h σ W env st Q w re p⟩
section
variable {G : Gx} {tg iter elt : Expr} {ifs : List Expr} {scope : Scope} {mi : AM} {js vs : List Nat} {mt : TgM} {tst : TM} {me : EM}
theorem bindIL {W : Wd} {σ : L2.St} {r : Res (List D)} {f : List D → M (List D)} {Q : VK} {R : It → Hp → Prop} (h : PostL G W σ (r.bind f) Q)
    (k : ∀ (ds : List D) (s1 : Sto) (J : It) (W2 : Wd), Ext W W2 → WOk G.X.K G.ca W2 s1 → JOk G.X.K G.ca W2 J ds → PostL G W2 σ (f ds s1) Q → R J W2.h) : PostI G W σ r R := by
  cases r with
  | ok d s1 => exact fun J W2 e w j => k d s1 J W2 e w j (PostL.mono e h)
  | exc c fs s1 => exact h
  | bad => exact h
/-- the reading of [elt for tg in iter if ..] -/
def tLcQ (G : Gx) (tg iter : Expr) (g : TG) (tt : TT) (te : TE) (vs : List Nat) : TE := tLc (QI G tg iter) g tt te vs
/-- the loop, whatever is walked -/
theorem comp_core {W1 : Wd} {σ : L2.St} {env : En} {s1 : Sto} {ds : List D} {J : It} {Q : VK} (hj : ∀ j ∈ js, j ∈ vs) {g : TG} {tt : TT} {te : TE}
    (hg : ∀ σ W env v d Q, RepE G.X.K G.ca G.xc W σ env → Rep G.X.K G.ca W v d → PostG G W σ env js (mt d env) Q → g v σ W.h Q)
    (ht : ∀ σ W env st Q, WOk G.X.K G.ca W st → RepE G.X.K G.ca G.xc W σ env → (∀ k s1, tst env st = .ok k s1 → ∀ W', Ext W W' → WOk G.X.K G.ca W' s1 → Q k W'.h) → (∃ k s1, tst env st = .ok k s1) → tt σ W.h Q)
    (he : ∀ σ W env st Q, WOk G.X.K G.ca W st → RepE G.X.K G.ca G.xc W σ env → (∀ d s1, me env st = .ok d s1 → ∀ v W', Ext W W' → WOk G.X.K G.ca W' s1 → Rep G.X.K G.ca W' v d → Q v W'.h) → (∃ d s1, me env st = .ok d s1) → te σ W.h Q)
    (w1 : WOk G.X.K G.ca W1 s1) (re0 : RepE G.X.K G.ca G.xc W1 σ env) (j1 : JOk G.X.K G.ca W1 J ds) (p1 : PostL G W1 σ (compLoop mt tst me (wipeE env vs) ds [] s1) Q) : tLc (fun _ _ R => R J W1.h) g tt te vs σ W1.h Q := by
  generalize hr0 : compLoop mt tst me (wipeE env vs) ds [] s1 = r0 at p1
  intro Dl hD
  have re1 : RepE G.X.K G.ca G.xc W1 (L2.wipe σ vs) (wipeE env vs) := re0.wipe vs
  have hp0 : (W1.lay Dl (.lst []) hD).h Dl ≠ none := by
    show upd W1.h Dl (.lst []) Dl ≠ none
    rw [upd_same]; exact fun z => by cases z
  -- the world with the new list, owned
  have e0 := Wd.own_ext (W1.lay_ext (o := .lst []) hD) hD hp0
  refine ⟨fun i m H' => ∃ (W' : Wd) (st' : Sto) (acc : List D) (xs : List V), H' = W'.h ∧ m = ds.length - i ∧ i ≤ ds.length ∧ Ext W1 W' ∧ W'.av Dl ∧ Dl ∉ W'.g ∧ W'.h Dl = some (.lst xs) ∧ WOk G.X.K G.ca W' st' ∧ Reps G.X.K G.ca W' xs acc ∧
      compLoop mt tst me (wipeE env vs) (ds.drop i) acc st' = r0,
    ⟨ds.length, (W1.lay Dl (.lst []) hD).own Dl hp0, s1, [], [], rfl, rfl, Nat.zero_le _, e0, .inr rfl, fun z => W1.trk Dl (W1.gav Dl z) hD, upd_same, w1.own hD hp0, .nil, hr0⟩, ?_⟩
  rintro i m H' ⟨W', st', acc, xs, rfl, rfl, hi', x', hv, ng, hh, w', r', eq⟩
  obtain ⟨jg, jst⟩ := j1 W' st' x'.kp w'
  cases hd : ds[i]? with
  | none =>
    have hl : ds.length ≤ i := List.getElem?_eq_none_iff.mp hd
    have ei : i = ds.length := Nat.le_antisymm hi' hl
    subst ei
    rw [List.drop_length] at eq
    rw [← eq] at p1
    exact .inl ⟨jst, p1 Dl xs W' x' hD hv ng hh w' r'⟩
  | some d =>
    have hl : i < ds.length := (List.getElem?_eq_some_iff.mp hd).1
    obtain ⟨go, yl⟩ := jg i d hd
    rw [drop_at hd] at eq
    refine .inr ⟨go, fun H2 => ∃ (W2 : Wd) (st2 : Sto) (acc2 : List D) (xs2 : List V), H2 = W2.h ∧ Ext W1 W2 ∧ W2.av Dl ∧ Dl ∉ W2.g ∧ W2.h Dl = some (.lst xs2) ∧ WOk G.X.K G.ca W2 st2 ∧ Reps G.X.K G.ca W2 xs2 acc2 ∧
        compLoop mt tst me (wipeE env vs) (ds.drop (i + 1)) acc2 st2 = r0,
      fun H2 ⟨W2, st2, acc2, xs2, h1, h2, h3, h4, h5, h6, h7, h8⟩ => ⟨ds.length - (i + 1), by omega, W2, st2, acc2, xs2, h1, rfl, hl, h2, h3, h4, h5, h6, h7, h8⟩, fun x H2 y => ?_⟩
    obtain ⟨W2, rfl, e2, w2, r2⟩ := yl x H2 y
    have nb : r0 ≠ .bad := fun z => by rw [z] at p1; exact p1
    rw [← eq] at nb
    have rb : RepE G.X.K G.ca G.xc W2 (L2.wipe σ vs) (wipeE env vs) := (re1.mono x').mono e2
    refine hg _ W2 _ x d _ rb r2 ?_
    unfold compLoop at eq nb
    cases hm : mt d (wipeE env vs) with
    | none => rw [hm] at nb; exact absurd rfl nb
    | some env1 =>
      rw [hm] at eq nb
      dsimp only at eq nb
      intro σ1 df x1 re2
      refine ⟨wipe_dif hj df, ?_⟩
      cases hts : tst env1 st' with
      | bad => rw [hts] at nb; exact absurd rfl nb
      | exc c fs s2 => rw [hts] at nb; exact absurd rfl nb
      | ok k s2 =>
        rw [hts] at eq nb
        dsimp only at eq nb
        refine ht σ1 W2 env1 st' _ w2 re2 (fun k' s2' ek W3 e3 w3 => ?_) ⟨k, s2, hts⟩
        rw [hts] at ek
        cases ek
        have h3 : W3.h Dl = some (.lst xs) := (e3.own Dl (e2.av Dl hv) (e2.kp.nocell hv ng)).trans ((e2.own Dl hv ng).trans hh)
        cases k with
        | false =>
          rw [if_neg Bool.false_ne_true] at eq nb ⊢
          exact ⟨W3, s2, acc, xs, rfl, (x'.trans e2).trans e3, e3.av Dl (e2.av Dl hv), e3.kp.nocell (e2.av Dl hv) (e2.kp.nocell hv ng), h3, w3, (r'.mono e2).mono e3, eq⟩
        | true =>
          rw [if_pos rfl] at eq nb ⊢
          cases hel : me env1 s2 with
          | bad => rw [hel] at nb; exact absurd rfl nb
          | exc c fs s4 => rw [hel] at nb; exact absurd rfl nb
          | ok y2 s4 =>
            rw [hel] at eq nb
            dsimp only at eq nb
            refine he σ1 W3 env1 s2 _ w3 (re2.mono e3) (fun d' s4' ed v W4 e4 w4 r4 => ?_) ⟨y2, s4, hel⟩
            rw [hel] at ed
            cases ed
            have a3 := e3.av Dl (e2.av Dl hv)
            have g3 := e3.kp.nocell (e2.av Dl hv) (e2.kp.nocell hv ng)
            have a4 := e4.av Dl a3
            have g4 := e4.kp.nocell a3 g3
            have h4 : W4.h Dl = some (.lst xs) := (e4.own Dl a3 g3).trans h3
            by_cases hlen : acc.length < LIM
            · rw [if_pos hlen] at eq nb
              have hp4 : W4.h Dl ≠ none := by rw [h4]; exact fun z => by cases z
              have k4 := W4.wr_kp (o := .lst (xs ++ [v])) hp4 a4
              have r14 : Reps G.X.K G.ca W4 xs acc := ((r'.mono e2).mono e3).mono e4
              refine ⟨xs, h4, lim_lt (by rw [r14.length]; exact hlen), W4.wr Dl (.lst (xs ++ [v])) hp4, s4, acc ++ [y2], xs ++ [v], rfl, ?_, a4, g4, upd_same, w4.wr hp4 a4 g4, (r14.kp k4).append (.cons (r4.kp k4) .nil), eq⟩
              have e14 := ((x'.trans e2).trans e3).trans e4
              refine ⟨fun q o n h => k4.keep q o (fun z => ?_) (e14.keep q o n h), fun q h1 h2 => ?_, e14.av, e14.new, fun q h => e14.stay q (k4.stay q h), e14.pre⟩
              · rcases e14.new q z with z | z
                · exact n z
                · rw [h] at z; cases z
              · have nq : q ≠ Dl := fun z => by subst z; exact W1.trk q h1 hD
                show upd W4.h Dl _ q = W1.h q
                rw [upd_ne nq]
                exact e14.own q h1 h2
            · rw [if_neg hlen] at nb; exact absurd rfl nb
theorem rd_comp (hi : RI G tg iter mi) (hj : ∀ j ∈ js, j ∈ vs) {g : TG} {tt : TT} {te : TE}
    (hg : ∀ σ W env v d Q, RepE G.X.K G.ca G.xc W σ env → Rep G.X.K G.ca W v d → PostG G W σ env js (mt d env) Q → g v σ W.h Q)
    (ht : ∀ σ W env st Q, WOk G.X.K G.ca W st → RepE G.X.K G.ca G.xc W σ env → (∀ k s1, tst env st = .ok k s1 → ∀ W', Ext W W' → WOk G.X.K G.ca W' s1 → Q k W'.h) → (∃ k s1, tst env st = .ok k s1) → tt σ W.h Q)
    (he : ∀ σ W env st Q, WOk G.X.K G.ca W st → RepE G.X.K G.ca G.xc W σ env → (∀ d s1, me env st = .ok d s1 → ∀ v W', Ext W W' → WOk G.X.K G.ca W' s1 → Rep G.X.K G.ca W' v d → Q v W'.h) → (∃ d s1, me env st = .ok d s1) → te σ W.h Q) :
    RdL G (tLc (QI G tg iter) g tt te vs) (lComp mi mt tst me vs) := by
  intro σ W env st Q w re p
  exact hi σ W env st _ w re (bindIL p fun ds s1 J W1 e1 w1 j1 p1 => comp_core hj hg ht he w1 (re.mono e1) j1 p1)
/-- the parts in the block's contexts, as readings -/
def gB (G : Gx) (scope : Scope) (tg : Expr) : TG := fun v σ H Q => ∀ s H0 C cl fp, QG (G.blk s H0 scope C cl fp) tg v σ H Q
def tB1 (G : Gx) (scope : Scope) (ifs : List Expr) : TT := fun σ H Q => ∀ s H0 C cl fp, QTs (G.blk s H0 scope C cl fp) ifs σ H Q
def eB1 (G : Gx) (scope : Scope) (elt : Expr) : TE := fun σ H Q => ∀ s H0 C cl fp, QE (G.blk s H0 scope C cl fp) elt σ H Q
abbrev tComp (G : Gx) (tg iter elt : Expr) (ifs : List Expr) (scope : Scope) (vs : List Nat) : TE := tLc (QI G tg iter) (gB G scope tg) (tB1 G scope ifs) (eB1 G scope elt) vs
theorem rdl_comp (hi : RI G tg iter mi) (hg : ∀ s H0 C cl fp, RG (G.blk s H0 scope C cl fp) tg js mt) (ht : ∀ s H0 C cl fp, RTs (G.blk s H0 scope C cl fp) ifs tst) (he : ∀ s H0 C cl fp, RE (G.blk s H0 scope C cl fp) elt me) (hj : ∀ j ∈ js, j ∈ vs) :
    RdL G (tComp G tg iter elt ifs scope vs) (lComp mi mt tst me vs) := by
  refine rd_comp hi hj (fun σ W env v d Q re r p s H0 C cl fp => hg s H0 C cl fp σ W env v d Q re r p) (fun σ W env st Q w re p ex s H0 C cl fp => ht s H0 C cl fp σ W env st Q w re ?_) (fun σ W env st Q w re p ex s H0 C cl fp => he s H0 C cl fp σ W env st Q w re ?_)
  · obtain ⟨k, s1, hk⟩ := ex
    rw [hk]
    exact p k s1 hk
  · obtain ⟨k, s1, hk⟩ := ex
    rw [hk]
    exact p k s1 hk
theorem pe_comp {own : List (Str × Nat)} {pos : Pos} (hc : G.X.calm = true) (hN : G.X.N.Nodup) (ok : BlkOk G.X.N G.X.env.scope scope own) (hs : ∀ x, foldedSetIterable iter G.X.env x = pure x := by exact fold_ns rfl) :
    PE G.X (.ListComp elt [⟨tg, iter, ifs, 0⟩] scope pos) (tComp G tg iter elt ifs scope (own.map (·.2))) :=
  pe_lc hc hN pi_q ok (fun s H0 C cl fp => ⟨fun pins s1 σ H v u Q I r h => h s H0 C cl fp pins s1 u I r⟩) (fun s H0 C cl fp => ⟨fun pins s1 σ H Q I h => (pts_q (G := G.blk s H0 scope C cl fp)).run pins s1 σ H Q I (h s H0 C cl fp)⟩) (fun s H0 C cl fp => ⟨fun pins s1 σ H Q I h => h s H0 C cl fp pins s1 I⟩) hs
theorem ps_comp {i : Nat} {y : Str} {py spos : Pos} {own : List (Str × Nat)} {pos : Pos} (hc : G.X.calm = true) (hN : G.X.N.Nodup) (hy : G.X.N[i]? = some y) (hyl : G.X.env.scope.names.lookup y = some .local)
    (hsw : swapsWith (.ListComp elt [⟨tg, iter, ifs, 0⟩] scope pos) (some (.Name y py)) spos.line G.X.env = pure true) (ok : BlkOk G.X.N G.X.env.scope scope own) (hs : ∀ x, foldedSetIterable iter G.X.env x = pure x := by exact fold_ns rfl) :
    PS G.X (.Assign [.Name y py] (.ListComp elt [⟨tg, iter, ifs, 0⟩] scope pos) spos) (tAsg (tComp G tg iter elt ifs scope (own.map (·.2))) (gName i)) :=
  ps_setLc hc hN hy hyl hsw pi_q ok (fun s H0 C cl fp => ⟨fun pins s1 σ H v u Q I r h => h s H0 C cl fp pins s1 u I r⟩) (fun s H0 C cl fp => ⟨fun pins s1 σ H Q I h => (pts_q (G := G.blk s H0 scope C cl fp)).run pins s1 σ H Q I (h s H0 C cl fp)⟩) (fun s H0 C cl fp => ⟨fun pins s1 σ H Q I h => h s H0 C cl fp pins s1 I⟩) hs
/-- a reading's judgement, as an expression's -/
theorem re_rd {e : Expr} {t : TE} {m : EM} (h : PE G.X e t) (r : RdE G t m) : RE G e m := fun σ W env st Q w re p => qe_of h (r σ W env st Q w re p)
theorem rl_rd {e : Expr} {t : TE} {m : AM} (h : PE G.X e t) (r : RdL G t m) : RL G e m := fun σ W env st Q w re p => qe_of h (r σ W env st Q w re p)
end
end Mi
/-! MiInst: instances made, fields stored, owned things let go. -/
namespace Mi
open PySem PySem.Spec PyProof.Rows L2
/-! ### an owned thing is let go: from then on it is a tree -/
def frz (i : Nat) (env : En) : En := match env[i]? with
  | some (.oL ds) => env.set i (.sh (.lst ds))
  | some (.oI c fs) => env.set i (.sh (.ins c fs))
  | _ => env
def sFrz (i : Nat) (m : SM) : SM := fun env st => m (frz i env) st
section
variable {K : PySem.W.Frag} {ca : Nat → Addr} {xc : XC} {W : Wd} {σ : L2.St} {env : En} {p : Addr} {i : Nat}
theorem let_go {d : D} (re : RepE K ca xc W σ env) (ho : Own σ env i p) (ng : p ∉ W.g) (r : Rep K ca (W.drop p ng) (.ref p) d) : RepE K ca xc (W.drop p ng) σ (env.set i (.sh d)) ∧ ExtS W σ env (W.drop p ng) σ (env.set i (.sh d)) := by
  have k := W.drop_kp ng
  have hi : i < env.length := by
    obtain ⟨_, t, h, _⟩ := ho
    exact (List.getElem?_eq_some_iff.mp h).1
  have oback : ∀ j q, Own σ (env.set i (.sh d)) j q → j ≠ i ∧ Own σ env j q := fun j q ⟨h1, t, h2, h3⟩ => by
    by_cases e : i = j
    · subst e
      rw [List.getElem?_set_self hi] at h2
      cases h2
      cases h3
    · rw [List.getElem?_set_ne e] at h2
      exact ⟨fun z => e z.symm, h1, t, h2, h3⟩
  have far : ∀ j q, i ≠ j → Own σ env j q → q ≠ p := fun j q ne hq e => by subst e; exact ne (re.sep i j q ho hq)
  refine ⟨⟨by rw [List.length_set]; exact re.len, fun j d' h => ?_, fun j ds h => ?_, fun j c fs h => ?_, fun j c fs h => ?_, fun a b q h1 h2 => re.sep a b q (oback _ _ h1).2 (oback _ _ h2).2⟩, ⟨k.keep, fun q h1 h2 h3 => ⟨rfl, h1, fun e => by subst e; exact h3 i ho⟩, k.new, k.stay, k.pre, fun j q h => .inl ⟨j, (oback j q h).2⟩, fun j q ⟨g1, c, fs, g2⟩ => ?_⟩⟩
  · by_cases e : i = j
    · subst e
      rw [List.getElem?_set_self hi] at h
      cases h
      exact ⟨.ref p, ho.1, r⟩
    · rw [List.getElem?_set_ne e] at h
      obtain ⟨v, h1, h2⟩ := re.sh j d' h
      exact ⟨v, h1, h2.kp k⟩
  · by_cases e : i = j
    · subst e
      rw [List.getElem?_set_self hi] at h
      cases h
    · rw [List.getElem?_set_ne e] at h
      obtain ⟨q, xs, h1, h2, h3, h4, h5⟩ := re.oL j ds h
      exact ⟨q, xs, h1, ⟨h2, far j q e ⟨h1, _, h, rfl⟩⟩, h3, h4, h5.kp k⟩
  · by_cases e : i = j
    · subst e
      rw [List.getElem?_set_self hi] at h
      cases h
    · rw [List.getElem?_set_ne e] at h
      obtain ⟨q, dx, ws, h1, h2, h3, h4, h5⟩ := re.oI j c fs h
      exact ⟨q, dx, ws, h1, ⟨h2, far j q e ⟨h1, _, h, rfl⟩⟩, h3, h4, h5.kp k⟩
  · by_cases e : i = j
    · subst e
      rw [List.getElem?_set_self hi] at h
      cases h
    · rw [List.getElem?_set_ne e] at h
      obtain ⟨a, d, h1, h2, h3⟩ := re.ex j c fs h
      exact ⟨a, d, h1, h2, h3.kp k⟩
  · have ne := (oback j q ⟨g1, _, g2, rfl⟩).1
    rw [List.getElem?_set_ne (Ne.symm ne)] at g2
    exact ⟨j, g1, c, fs, g2⟩
/-- slot i let go, if it owns something -/
theorem frz_ok {st : Sto} (i : Nat) (w : WOk K ca W st) (re : RepE K ca xc W σ env) : ∃ W', W'.h = W.h ∧ WOk K ca W' st ∧ RepE K ca xc W' σ (frz i env) ∧ ExtS W σ env W' σ (frz i env) := by
  unfold frz
  cases h : env[i]? with
  | none => exact ⟨W, rfl, w, re, ExtS.refl W σ env⟩
  | some s =>
    cases s with
    | oL ds =>
      obtain ⟨p, xs, h1, h2, h3, h4, h5⟩ := re.oL i ds h
      have k := W.drop_kp h3
      obtain ⟨a, b⟩ := let_go (d := .lst ds) re ⟨h1, _, h, rfl⟩ h3 (.lst (fun z => z.2 rfl) h4 (h5.kp k))
      exact ⟨W.drop p h3, rfl, w.drop h3, a, b⟩
    | oI c fs =>
      obtain ⟨p, dx, ws, h1, h2, h3, h4, h5⟩ := re.oI i c fs h
      have k := W.drop_kp h3
      obtain ⟨a, b⟩ := let_go (d := .ins c fs) re ⟨h1, _, h, rfl⟩ h3 (.ins (fun z => z.2 rfl) h4 (h5.kp k))
      exact ⟨W.drop p h3, rfl, w.drop h3, a, b⟩
    | no => exact ⟨W, rfl, w, re, ExtS.refl W σ env⟩
    | sh d => exact ⟨W, rfl, w, re, ExtS.refl W σ env⟩
    | ex c fs => exact ⟨W, rfl, w, re, ExtS.refl W σ env⟩
end
section
variable {G : Gx} {s : Stmt} {ss : List Stmt} {m : SM}
theorem rss_frz (i : Nat) (h : RSs G ss m) : RSs G ss (sFrz i m) := by
  intro σ W env st Dn w re p
  obtain ⟨W', e, w', re', x⟩ := frz_ok i w re
  rw [← e]
  exact h σ W' (frz i env) st Dn w' re' (PostS.mono x p)
theorem rs_frz (i : Nat) (h : RS G s m) : RS G s (sFrz i m) := by
  intro σ W env st Dn w re p
  obtain ⟨W', e, w', re', x⟩ := frz_ok i w re
  rw [← e]
  exact h σ W' (frz i env) st Dn w' re' (PostS.mono x p)
end
/-! ### fields of the instance that a slot owns -/
def eFldO (cs : List Nat) (i : Nat) (f : Str) : EM := fun env st => match env[i]? with
  | some (.oI c fs) => if cs.contains c = true then (match fs.lookup f with
    | some d => .ok d st
    | none => .bad) else .bad
  | _ => .bad
def sFldO (cs : List Nat) (i : Nat) (f : Str) (a : EM) : SM := fun env st => (a env st).go env fun d s => match env[i]? with
  | some (.oI c fs) => if cs.contains c = true ∧ fs.length < 1000 then .nx (env.set i (.oI c (put f d fs))) s else .bad
  | _ => .bad
section
variable {G : Gx} {o e : Expr} {pos pos' : Pos} {ma : EM} {cs : List Nat} {f : Str} {i : Nat}
theorem re_fldO (hf : FldOk G cs f) (ho : PE G.X o (tVar i)) (hb : attributeBase o f G.X.env (eval o G.X.env) = eval o G.X.env := by first | exact abase_ns rfl | rfl) : RE G (.Attribute o f pos) (eFldO cs i f) := by
  intro σ W env st Q wk re hp
  refine qe_of (pe_fld ho hb) ?_
  unfold eFldO at hp
  cases h : env[i]? with
  | none => rw [h] at hp; exact hp.elim
  | some s =>
    rw [h] at hp
    cases s with
    | oI c fs =>
      dsimp only at hp
      split at hp
      · rename_i hcs
        cases hl : fs.lookup f with
        | none => rw [hl] at hp; exact hp.elim
        | some d2 =>
          rw [hl] at hp
          obtain ⟨p, dx, ws, h1, h2, h3, h4, h5⟩ := re.oI i c fs h
          obtain ⟨g1, g2⟩ := hf c (by simpa using hcs)
          obtain ⟨v, g3, g4⟩ := h5.look hl
          exact ⟨.ref p, h1, p, _, dx, ws, v, rfl, h4, g1, g2, g3, hp v W (Ext.refl W) wk g4⟩
      · exact hp.elim
    | no => exact hp.elim
    | sh d => exact hp.elim
    | oL d => exact hp.elim
    | ex c d => exact hp.elim
theorem rs_fldO (hf : FldOk G cs f) (ho : PE G.X o (tVar i)) (ha : RE G e ma) (hs : swapsWith e (some (.Attribute o f pos')) pos.line G.X.env = pure false := by first | exact swaps_ns rfl | rfl) : RS G (.Assign [.Attribute o f pos'] e pos) (sFldO cs i f ma) := by
  intro σ W env st Dn wk re hp
  refine qs_of (ps_fld ho pe_q hs) ?_
  refine ha σ W env st _ wk re (bindES re hp fun d s1 v W1 e1 w1 r1 re1 p1 => ?_)
  cases h : env[i]? with
  | none => rw [h] at p1; exact p1.elim
  | some s =>
    rw [h] at p1
    cases s with
    | oI c fs =>
      dsimp only at p1
      split at p1
      · rename_i hcs
        obtain ⟨p, dx, ws, h1, h2, h3, h4, h5⟩ := re1.oI i c fs h
        obtain ⟨g1, g2⟩ := hf c (by simpa using hcs.1)
        have hne : W1.h p ≠ none := by rw [h4]; exact fun z => by cases z
        obtain ⟨q1, q2⟩ := own_wr (o := .ins (G.ca c) dx (putF f v ws)) (s := .oI c (put f d fs)) re1 ⟨h1, _, h, rfl⟩ h3 hne h2 rfl (fun ds z => by cases z) (fun c' fs' z => by cases z; exact ⟨⟨c, fs, h⟩, dx, _, rfl, h5.put r1⟩)
        exact ⟨.ref p, h1, p, _, dx, ws, rfl, h4, g1, g2, by rw [h5.length]; exact hcs.2, p1 σ _ q2 (w1.wr hne h2 h3) q1⟩
      · exact p1.elim
    | no => exact p1.elim
    | sh d => exact p1.elim
    | oL d => exact p1.elim
    | ex c d => exact p1.elim
end
/-! ### an __init__ whose self is owned -/
def XtI (x : Addr) (W W' : Wd) : Prop := ExtS W [some (.ref x)] [.oI 0 []] W' [] []
def spI (K : PySem.W.Frag) (ca : Nat → Addr) (c n : Nat) (m : List D → M Fs) : Sp := fun vs H Q E => ∃ (x : Addr) (vs' : List V) (W : Wd) (st : Sto) (ds : List D) (dx : Addr), vs = .ref x :: vs' ∧ W.h = H ∧ WOk K ca W st ∧ W.av x ∧ x ∉ W.g ∧ W.h x = some (.ins (ca c) dx []) ∧
  Reps K ca W vs' ds ∧ ds.length = n ∧ match m ds st with
  | .ok fs st' => ∀ ws dx' W', XtI x W W' → WOk K ca W' st' → W'.av x → x ∉ W'.g → W'.h x = some (.ins (ca c) dx' ws) → RepF K ca W' ws fs → Q .non W'.h
  | .exc c' fs st' => ∀ dd W', XtI x W W' → WOk K ca W' st' → RepX K ca W' fs dd → E (.ref (ca c')) dd W'.h
  | .bad => False
def envI (c n : Nat) (ds : List D) : En := .oI c [] :: env0 (n - 1) ds
def runInit (c n : Nat) (b : SM) (ds : List D) : M Fs := fun st => match b (envI c n ds) st with
  | .nx env st' => (match (env[0]? : Option Slot) with
    | some (.oI c' fs) => if c' = c then .ok fs st' else .bad
    | _ => .bad)
  | .exc _ c fs st' => .exc c fs st'
  | _ => .bad
theorem envI_own {c n : Nat} {ds : List D} {σ : L2.St} {i : Nat} {p : Addr} (h : Own σ (envI c n ds) i p) : i = 0 := by
  obtain ⟨h1, s, h2, h3⟩ := h
  cases i with
  | zero => rfl
  | succ i =>
    have h2 : (env0 (n - 1) ds)[i]? = some s := h2
    rcases env0_get h2 with e | ⟨d, e, _⟩
    · subst e; cases h3
    · subst e; cases h3
section
variable {P : Program} {w : World} {K : PySem.W.Frag} {mg : Str → Option Value} {base : Heap} {ca : Nat → Addr}
theorem init_body {qual : Str} {st : Stmt} {f : Addr} {N ps : List Str} {c : Nat} {b : SM} {cdv : Value} {A : Around} {outer : List Env} {s : Shared} {H : Hp} {E : XK} {vs : List V} {Q : VK} (hps : 1 ≤ ps.length) (hN : ps.length ≤ N.length)
    (hb : RSs (gx P w K mg base ca N qual (defScope st) f cdv A outer s H E) (defBody st) b) (h : spI K ca c (ps.length - 1) (runInit c N.length b) vs H Q E) :
    QSs (gx P w K mg base ca N qual (defScope st) f cdv A outer s H E) (defBody st) { nx := fun _ H' => Q .non H', rt := Q } (L2.start N vs) H := by
  obtain ⟨x, vs', W, sto, ds, dx, rfl, rfl, wk, hv, ng, hx, r, hl, p⟩ := h
  have hst : L2.start N (.ref x :: vs') = some (.ref x) :: L2.start (N.drop 1) vs' := by
    unfold L2.start
    simp only [List.map_cons, List.cons_append, List.length_cons, List.length_drop]
    congr 2
    congr 1
    omega
  have hre : RepE K ca none W (L2.start N (.ref x :: vs')) (envI c N.length ds) := by
    have r0 := repE_start (N := N.drop 1) r
    rw [List.length_drop] at r0
    rw [hst]
    refine ⟨?_, fun i d h => ?_, fun i d h => ?_, fun i c' fs h => ?_, fun i c' fs h => ?_, fun i j q h1 h2 => (envI_own h1).trans (envI_own h2).symm⟩
    · show (L2.start (N.drop 1) vs').length + 1 = (env0 (N.length - 1) ds).length + 1
      rw [r0.len]
    · cases i with
      | zero => cases h
      | succ i => exact r0.sh i d h
    · cases i with
      | zero => cases h
      | succ i => exact r0.oL i d h
    · cases i with
      | zero => cases h; exact ⟨x, dx, [], rfl, hv, ng, hx, .nil⟩
      | succ i => exact r0.oI i c' fs h
    · cases i with
      | zero => cases h
      | succ i => exact r0.ex i c' fs h
  have hown : ∀ i q, Own (L2.start N (.ref x :: vs')) (envI c N.length ds) i q → q = x := fun i q h => by
    have e := envI_own h
    subst e
    obtain ⟨h1, _⟩ := h
    rw [hst] at h1
    cases h1
    rfl
  have cv : ∀ {W' σ' env'}, ExtS W (L2.start N (.ref x :: vs')) (envI c N.length ds) W' σ' env' → XtI x W W' := fun {W' σ' env'} e => by
    refine ⟨e.keep, fun q h1 h2 h3 => e.own q h1 h2 fun i hi => ?_, e.new, e.stay, e.pre, fun i q h => ?_, fun i q h => ?_⟩
    · have := hown i q hi
      subst this
      exact h3 0 ⟨rfl, _, rfl, rfl⟩
    · obtain ⟨h, _⟩ := h
      simp at h
    · obtain ⟨h, _⟩ := h
      simp at h
  refine hb _ W _ sto _ wk hre ?_
  unfold runInit at p
  cases hm : b (envI c N.length ds) sto with
  | nx env' st' =>
    rw [hm] at p
    dsimp only at p
    intro σ' W' x' w' re'
    cases h0 : env'[0]? with
    | none => rw [h0] at p; exact p.elim
    | some s0 =>
      rw [h0] at p
      cases s0 with
      | oI c' fs =>
        dsimp only at p
        by_cases hc : c' = c
        · rw [if_pos hc] at p
          subst hc
          obtain ⟨q, dx', ws, h1, h2, h3, h4, h5⟩ := re'.oI 0 c' fs h0
          obtain ⟨j, g1, _, _, g2⟩ := x'.ownI 0 q ⟨h1, _, _, h0⟩
          have e := hown j q ⟨g1, _, g2, rfl⟩
          subst e
          exact p ws dx' W' (cv x') w' h2 h3 h4 h5
        · rw [if_neg hc] at p; exact p.elim
      | no => exact p.elim
      | sh d => exact p.elim
      | oL d => exact p.elim
      | ex c' d => exact p.elim
  | rt d st' => rw [hm] at p; exact p.elim
  | bk env' st' => rw [hm] at p; exact p.elim
  | ct env' st' => rw [hm] at p; exact p.elim
  | exc env' c fs st' => rw [hm] at p; exact fun σ' dd W' x w' _ rx => p dd W' (cv x) w' rx
  | bad => rw [hm] at p; exact p
end
/-! ### C(..): a new instance that is a tree behind its __init__ -/
def mNew (c n : Nat) (dds : List D) (m : List D → M Fs) : List D → M D := fun ds st => if ds.length + dds.length = n then (m (ds ++ dds) st).bind fun fs s => .ok (.ins c fs) s else .bad
section
variable {G : Gx} {k c : Nat} {f : Addr} {fd : FuncData} {ps : List Str}
theorem run_new {σ : L2.St} {H : Hp} {vs dvs : List V} {dvals : List Value} {Q : VK} {C : Addr} {sp : Sp} (tk : Takes G.X G.E) (Mk1 : Mk G.X.K C f) (F : FnOk G.X.prog G.X.w G.X.K G.X.mg G.X.base (L2.CX G.X.prog G.X.w) k f fd ps sp) (hr : Room (k + 1) G.X.A) (hb : Binds G.X.K fd ps dvals) (hd : Vals dvs dvals)
    (h : ∀ x dx, H x = none → H dx = none → dx ≠ x → sp (.ref x :: (vs ++ dvs)) (upd (upd H dx (.own x)) x (.ins C dx [])) (fun v H2 => v = .non ∧ Q (.ref x) H2) fun cl d H' => G.E cl d σ H') : QC G (.ref C) σ vs H Q := by
  intro pins s us I rv
  have hq := h (s.heap.objs.size + 1) s.heap.objs.size (I.hok.fresh (Nat.le_succ _)) (I.hok.fresh (Nat.le_refl _)) (Nat.ne_of_lt (Nat.lt_succ_self _))
  have I2 := Inv.made (C := C) I
  have rr : Vals (V.ref (s.heap.objs.size + 1) :: (vs ++ dvs)) (Value.ref (s.heap.objs.size + 1) :: (us ++ dvals)) := .cons rfl (rv.append hd)
  have hl : (Value.ref (s.heap.objs.size + 1) :: us ++ dvals).length = ps.length := by
    have e := rr.length
    rw [F.len _ _ _ _ hq] at e
    exact e.symm
  have bnd := hb _ (Value.ref (s.heap.objs.size + 1) :: us) I2.kIn hl
  refine wpAny_call (make_map (f := f) I.kIn Mk1.makes Mk1.init (beq_iff_eq.mp Mk1.fn) (codeAny_mono (F.run _ G.X.stack _ _ _ _ _ _ _ (hr.make C us []) (I2.env0.make C us []) bnd rr hq) fun res s' hz => ?_))
  cases res with
  | error ex => exact tk ex s' (XE.of_call I2 (fun _ _ _ z => z) hz)
  | ok fl =>
    cases fl with
    | ret u =>
      obtain ⟨v, H', I3, r3, ev, q3⟩ := I2.after hz
      subst ev
      exact ⟨r3, ⟨V.ref (s.heap.objs.size + 1), H', I3, rfl, q3⟩⟩
    | next => exact hz.elim
    | brk => exact hz.elim
    | cont => exact hz.elim
theorem call_new {n : Nat} {m : List D → M Fs} {dvs : List V} {dvals : List Value} {dds : List D} (tk : Takes G.X G.E) (Mk1 : Mk G.X.K (G.ca c) f) (F : FnOk G.X.prog G.X.w G.X.K G.X.mg G.X.base (L2.CX G.X.prog G.X.w) k f fd ps (spI G.X.K G.ca c n m)) (hr : Room (k + 1) G.X.A) (hb : Binds G.X.K fd ps dvals) (hd : Vals dvs dvals)
    (rd : ∀ W, Reps G.X.K G.ca W dvs dds) : CallD G (.ref (G.ca c)) (mNew c n dds m) := by
  intro σ W st vs ds Q wk r p
  unfold mNew at p
  by_cases hl : ds.length + dds.length = n
  · rw [if_pos hl] at p
    refine run_new tk Mk1 F hr hb hd fun x dx hx hdx ne => ?_
    -- the world with the new instance, owned
    have hdx' : (W.lay dx (.own x) hdx).h x = none := by
      show upd W.h dx (.own x) x = none
      rw [upd_ne (Ne.symm ne)]; exact hx
    have hp : ((W.lay dx (.own x) hdx).lay x (.ins (G.ca c) dx []) hdx').h x ≠ none := by
      show upd _ x _ x ≠ none
      rw [upd_same]; exact fun z => by cases z
    have e1 : Ext W (W.lay dx (.own x) hdx) := W.lay_ext hdx
    have e2 : Ext (W.lay dx (.own x) hdx) (((W.lay dx (.own x) hdx).lay x (.ins (G.ca c) dx []) hdx').own x hp) := Wd.own_ext (Wd.lay_ext _ hdx') hdx' hp
    have e3 := e1.trans e2
    have w3 : WOk G.X.K G.ca (((W.lay dx (.own x) hdx).lay x (.ins (G.ca c) dx []) hdx').own x hp) st := (wk.lay hdx).own hdx' hp
    refine ⟨x, vs ++ dvs, ((W.lay dx (.own x) hdx).lay x (.ins (G.ca c) dx []) hdx').own x hp, st, ds ++ dds, dx, rfl, rfl, w3, .inr rfl, fun z => W.trk x (W.gav x z) hx, upd_same, (r.append (rd W)).mono e3, by rw [List.length_append]; exact hl, ?_⟩
    have back : ∀ {W' : Wd} (ng : x ∉ W'.g), XtI x (((W.lay dx (.own x) hdx).lay x (.ins (G.ca c) dx []) hdx').own x hp) W' → Ext W (W'.drop x ng) := fun {W'} ng z => by
      have no : ∀ q, W.av q → ∀ i, ¬ Own [some (.ref x)] [.oI 0 []] i q := fun q hq i ho => by
        obtain ⟨h1, _⟩ := ho
        cases i with
        | zero =>
          cases h1
          exact W.trk x hq hx
        | succ i => simp at h1
      refine ⟨fun q o n h => z.keep q o (fun av => ?_) (e3.keep q o n h), fun q h1 h2 => ?_, fun q h1 => ?_, fun q h => ?_, fun q h => e3.stay q (z.stay q h), ?_⟩
      · rcases e3.new q av with y | y
        · exact n y
        · rw [h] at y; cases y
      · exact ((z.own q (e3.av q h1) (e3.kp.nocell h1 h2) (no q h1)).1).trans (e3.own q h1 h2)
      · refine ⟨?_, fun y => by subst y; exact W.trk q h1 hx⟩
        by_cases hg : q ∈ W.g
        · obtain ⟨l, y, _⟩ := z.pre
          exact W'.gav q (by rw [y]; exact List.mem_append_left _ hg)
        · exact (z.own q (e3.av q h1) (e3.kp.nocell h1 hg) (no q h1)).2
      · rcases z.new q h.1 with y | y
        · rcases e3.new q y with y | y
          · exact .inl y
          · exact .inr y
        · exact .inr (e3.stay q y)
      · obtain ⟨l, y, y2⟩ := z.pre
        exact ⟨l, y, fun q hq => e3.stay q (y2 q hq)⟩
    cases hm : m (ds ++ dds) st with
    | bad => rw [hm] at p; exact p
    | exc c' fs st' =>
      rw [hm] at p
      intro dd W' z w' rx
      have ng : x ∉ W'.g := by
        obtain ⟨l, y, y2⟩ := z.pre
        rw [y]
        simp only [List.mem_append, not_or]
        exact ⟨fun q => W.trk x (W.gav x q) hx, fun q => absurd (y2 x q) (by rw [show (((W.lay dx (.own x) hdx).lay x (.ins (G.ca c) dx []) hdx').own x hp).h x = some (.ins (G.ca c) dx []) from upd_same]; exact fun z => by cases z)⟩
      exact p dd (W'.drop x ng) (back ng z) (w'.drop ng) (rx.kp (W'.drop_kp ng))
    | ok fs st' =>
      rw [hm] at p
      exact fun ws dx' W' z w' hv ng hh rf => ⟨rfl, p (.ref x) (W'.drop x ng) (back ng z) (w'.drop ng) (.ins (fun q => q.2 rfl) hh (rf.kp (W'.drop_kp ng)))⟩
  · rw [if_neg hl] at p; exact p.elim
end
end Mi
/-! MiExc: own exceptions raised and caught, their fields, isinstance. -/
namespace Mi
open PySem PySem.Spec PyProof.Rows L2
/-! ### an exception's __init__: self.f = f, field by field -/
def xfs {α : Type} (fs : List Str) (ws : List α) : List (Str × α) := (fs.zip ws).reverse
theorem RepF.append {K : PySem.W.Frag} {ca : Nat → Addr} {W : Wd} : ∀ {a b : List (Str × V)} {c d : Fs}, RepF K ca W a c → RepF K ca W b d → RepF K ca W (a ++ b) (c ++ d)
  | _, _, _, _, .nil, k => k
  | _, _, _, _, .cons r t, k => .cons r (RepF.append t k)
theorem xfs_rep {K : PySem.W.Frag} {ca : Nat → Addr} {W : Wd} : ∀ {fs : List Str} {ws : List V} {ds : List D}, Reps K ca W ws ds → RepF K ca W (xfs fs ws) (xfs fs ds)
  | [], _, _, _ => .nil
  | f :: fs, _, _, .nil => .nil
  | f :: fs, _, _, .cons r1 rr => by
    have ih := xfs_rep (fs := fs) rr
    unfold xfs at ih ⊢
    rw [List.zip_cons_cons, List.zip_cons_cons, List.reverse_cons, List.reverse_cons]
    exact RepF.append ih (.cons r1 .nil)
/-- what it promises: the exception at a gets its dict -/
def spX (C : Addr) (fs : List Str) : Sp := fun vs H Q _ => ∃ (a : Addr) (ws : List V), vs = .ref a :: ws ∧ ws.length = fs.length ∧ H a = some (exo a C none) ∧
  ∀ dx H', H dx = none → dx ≠ a → (∀ b, b ≠ a → b ≠ dx → H' b = H b) → H' a = some (exo a C (some dx)) → H' dx = some (exd dx (xfs fs ws)) → Q .non H'
section
variable {G : Gx} {C fI : Addr} {k c : Nat} {fd : FuncData} {ps : List Str} {x : Str} {p pos : Pos} {e : Expr} {es : List Expr} {aa : AM} {fs : List Str}
def sRaise (c n : Nat) (fs : List Str) (a : AM) : SM := fun env st => (a env st).go env fun ds s => if ds.length = n then .exc env c (xfs fs ds) s else .bad
/-- raise X(e, ..), X with such an __init__ -/
theorem rs_raise (hc : G.X.calm = true) (tk : Takes G.X G.E) (T : OexC G.X.K (G.ca c)) (iC : PySem.W.findIn G.X.K (.ref (G.ca c)) "__init__" = some (some (.ref fI))) (tI : PySem.W.typeIn G.X.K (.ref fI) = some (.type "function"))
    (F : FnOk G.X.prog G.X.w G.X.K G.X.mg G.X.base (L2.CX G.X.prog G.X.w) k fI fd ps (spX (G.ca c) fs)) (hr : Room (k + 1) G.X.A) (hb : Binds G.X.K fd ps []) (hg : Gl G.X x) (hm : G.X.mg x = some (.ref (G.ca c))) (ha : RA G (e :: es) aa) (hl : fs.length ≤ 1000)
    (hdb : (x == ("__debug__" : Str)) = false := by decide) (he : starEach (e :: es) G.X.env = (false, eval e G.X.env) :: starEach es G.X.env := by exact starEach_ns rfl) (hpl : (backTo pos (starEach es G.X.env)).any (·.1) = false := by exact plain_ns rfl) {pos2 : Pos} :
    RS G (.Raise (some (.Call (.Name x p) (e :: es) [] pos)) none pos2) (sRaise c fs.length fs aa) := by
  intro σ W env st Dn w re hp
  refine qs_of (ps_raise hc tk (pmk_oex T iC tI F hr hb .nil passL hg hm pa_q hdb he hpl)) ?_
  refine ha σ W env st _ w re (bindAS re hp fun ds s1 vs W1 e1 w1 r1 re1 p1 => ?_)
  by_cases hn : ds.length = fs.length
  · rw [if_pos hn] at p1
    have hv : vs.length = fs.length := r1.length.trans hn
    refine ⟨by omega, fun a hna => ?_⟩
    refine ⟨a, vs ++ [], rfl, by rw [List.append_nil]; exact hv, upd_same, fun dx H' hd ne hk h1 h2 => ?_⟩
    rw [List.append_nil] at h2
    have hd1 : W1.h dx = none := by
      rw [upd_ne ne] at hd
      exact hd
    refine ⟨rfl, dx, xfs fs vs, h1, h2, hd1, ?_⟩
    have hH : upd (del H' a) dx (.xd (xfs fs vs)) = (W1.lay dx (.xd (xfs fs vs)) hd1).h := by
      funext b
      show upd (del H' a) dx (.xd (xfs fs vs)) b = upd W1.h dx (.xd (xfs fs vs)) b
      by_cases eb : b = dx
      · subst eb
        rw [upd_same, upd_same]
      · rw [upd_ne eb, upd_ne eb]
        by_cases ea : b = a
        · subst ea
          rw [del_same, hna]
        · rw [del_ne ea, hk b ea eb, upd_ne ea]
    rw [hH]
    have x1 := W1.lay_ext (o := .xd (xfs fs vs)) hd1
    exact p1 σ (some dx) _ (x1.s σ env) (w1.lay hd1) (re1.mono x1) (.inr ⟨dx, _, rfl, W1.lay_nav hd1, upd_same, (xfs_rep r1).mono x1⟩)
  · rw [if_neg hn] at p1; exact p1.elim
end
/-! ### try .. except -/
/-- the suite's exceptions are gone behind it -/
def clr (env : En) : En := env.map fun s => match s with
  | .ex _ _ => .no
  | s => s
theorem clr_get {env : En} {i : Nat} {s : Slot} (h : (clr env)[i]? = some s) : (∀ c fs, s ≠ .ex c fs) ∧ (s = .no ∨ env[i]? = some s) := by
  unfold clr at h
  rw [List.getElem?_map] at h
  cases e : env[i]? with
  | none => rw [e] at h; cases h
  | some t =>
    rw [e] at h
    cases t with
    | no => cases h; exact ⟨(fun _ _ z => by cases z), .inl rfl⟩
    | sh d => cases h; exact ⟨(fun _ _ z => by cases z), .inr rfl⟩
    | oL d => cases h; exact ⟨(fun _ _ z => by cases z), .inr rfl⟩
    | oI c d => cases h; exact ⟨(fun _ _ z => by cases z), .inr rfl⟩
    | ex c d => cases h; exact ⟨(fun _ _ z => by cases z), .inl rfl⟩
theorem clr_own {σ : L2.St} {env : En} {i : Nat} {p : Addr} (h : Own σ (clr env) i p) : Own σ env i p := by
  obtain ⟨h1, s, h2, h3⟩ := h
  rcases (clr_get h2).2 with e | e
  · subst e; cases h3
  · exact ⟨h1, s, e, h3⟩
theorem clr_ok {K : PySem.W.Frag} {ca : Nat → Addr} {xc xc' : XC} {W : Wd} {σ : L2.St} {env : En} (r : RepE K ca xc W σ env) : RepE K ca xc' W σ (clr env) where
  len := by unfold clr; rw [List.length_map]; exact r.len
  sh := fun i d h => by
    rcases (clr_get h).2 with e | e
    · cases e
    · exact r.sh i d e
  oL := fun i d h => by
    rcases (clr_get h).2 with e | e
    · cases e
    · exact r.oL i d e
  oI := fun i c d h => by
    rcases (clr_get h).2 with e | e
    · cases e
    · exact r.oI i c d e
  ex := fun i c d h => absurd rfl ((clr_get h).1 c d)
  sep := fun i j p h1 h2 => r.sep i j p (clr_own h1) (clr_own h2)
theorem clr_ext (W : Wd) (σ : L2.St) (env : En) : ExtS W σ env W σ (clr env) :=
  ⟨fun _ _ _ h => h, fun p h _ _ => ⟨rfl, h⟩, fun _ h => .inl h, fun _ h => h, ⟨[], by simp, fun _ h => by simp at h⟩, fun j p h => .inl ⟨j, clr_own h⟩, fun j p ⟨h1, c, fs, h2⟩ => by
    rcases (clr_get h2).2 with e | e
    · cases e
    · exact ⟨j, h1, c, fs, e⟩⟩
/-- behind the suite of a clause that names slot i -/
def suiteEnd (i : Option Nat) (r : SRes) : SRes := match r with
  | .nx env st => .nx (match i with | some i => (clr env).set i .no | none => clr env) st
  | .bk env st => .bk (match i with | some i => (clr env).set i .no | none => clr env) st
  | .ct env st => .ct (match i with | some i => (clr env).set i .no | none => clr env) st
  | .rt d st => .rt d st
  | _ => .bad
def sTry (sub : Nat → Option Bool) (i : Option Nat) (mb ms : SM) : SM := fun env st => match mb env st with
  | .exc env' c fs st' => (match sub c with
    | some true => suiteEnd i (ms (match i with | some i => env'.set i (.ex c fs) | none => env') st')
    | some false => .exc env' c fs st'
    | none => .bad)
  | r => r
abbrev Gx.tr (G : Gx) (W : WX) (pn : List (Addr × Obj)) (xe : Value → Shared → Prop) : Gx := ⟨G.X.tr pn xe, G.ca, W, G.xc⟩
abbrev Gx.su (G : Gx) (a : Addr) (oe : Obj) (cls : Value) (d : Option Addr) (pn : List (Addr × Obj)) : Gx := ⟨G.X.suite a ((a, oe) :: pn), G.ca, fun _ _ _ _ => False, some (a, cls, d)⟩
section
variable {G : Gx} {x n : Str} {cv : Value} {i : Nat} {body suite : List Stmt} {b₀ : Stmt} {np pos pos' : Pos} {mb ms : SM} {sub : Nat → Option Bool}
theorem rs_try_as (hst : G.X.stack = G.X.env :: G.X.outer) (hfr : G.X.env.frame = some G.X.env.locals) (hN : G.X.N.Nodup) (hi : G.X.N[i]? = some n) (hln : G.X.env.kindOf n = some .local) (hc : Names G.X x cv) (tk : Takes G.X G.E)
    (hsub : ∀ c b, sub c = some b → PySem.W.exmOne G.X.K (.ref (G.ca c)) cv = some b)
    (hb : ∀ (W : WX) (pn : List (Addr × Obj)) (xe : Value → Shared → Prop), Takes (G.X.tr pn xe) W → PassesOwn (model G.X.prog G.X.w) G.X.A G.X.env xe → RSs (G.tr W pn xe) body mb)
    (hsu : ∀ (a : Addr) (oe : Obj) (cls : Value) (d : Option Addr) (pn : List (Addr × Obj)), Zc cls d oe → (∃ vs, oe.data = .fields vs) → RSs (G.su a oe cls d pn) (b₀ :: suite) ms) (hx : G.xc = none) :
    RS G (.Try body [.ExceptHandler (some (.Name x np)) (some n) (b₀ :: suite) pos'] [] [] pos) (sTry sub (some i) mb ms) := by
  intro σ W env st Dn w re hp
  refine qs_of (ps_try_as (Wout := G.E) (tb := fun W' D σ H => ∀ pn xe, Takes (G.X.tr pn xe) W' → PassesOwn (model G.X.prog G.X.w) G.X.A G.X.env xe → QSs (G.tr W' pn xe) body D σ H)
    (ts := fun a cls d D σ H => ∀ oe pn, Zc cls d oe → (∃ vs, oe.data = .fields vs) → QSs (G.su a oe cls d pn) (b₀ :: suite) D σ H) hst hfr hN hi hln hc tk
    (fun W' pn xe t1 t2 => ⟨fun pins s σ H D I h => h pn xe t1 t2 pins s I⟩) (fun a oe cls d pn z1 z2 => ⟨fun pins s σ H D I h => h oe pn z1 z2 pins s I⟩)) ?_
  intro pn xe t1 t2
  refine hb _ pn xe t1 t2 σ W env st Dn w re ?_
  unfold sTry at hp
  cases hm : mb env st with
  | nx env' st' => rw [hm] at hp; exact hp
  | rt d st' => rw [hm] at hp; exact hp
  | bk env' st' => rw [hm] at hp; exact hp
  | ct env' st' => rw [hm] at hp; exact hp
  | bad => rw [hm] at hp; exact hp
  | exc env' c fs st' =>
    rw [hm] at hp
    dsimp only at hp
    intro σ1 dd W1 x1 w1 re1 rx
    cases hs : sub c with
    | none => rw [hs] at hp; exact hp.elim
    | some b =>
      rw [hs] at hp
      refine ⟨b, hsub c b hs, fun hbt a ha oe pn2 z1 z2 => ?_, fun hbf => ?_⟩
      · subst hbt
        dsimp only at hp
        refine hsu a oe _ dd pn2 z1 z2 _ W1 (env'.set i (.ex c fs)) st' _ w1 ?_ ?_
        · have r0 : RepE G.X.K G.ca (some (a, Value.ref (G.ca c), dd)) W1 σ1 env' := by
            refine ⟨re1.len, re1.sh, re1.oL, re1.oI, fun j c' fs' h => ?_, re1.sep⟩
            obtain ⟨a', d', h1, _⟩ := re1.ex j c' fs' h
            have h1 : G.xc = _ := h1
            rw [hx] at h1
            cases h1
          refine r0.put rfl (fun d' e => by cases e) (fun c' fs' e => ?_)
          cases e
          exact ⟨a, dd, rfl, rfl, rx⟩
        · have hp1 : PostS G W1 σ1 env' (suiteEnd (some i) (ms (env'.set i (.ex c fs)) st')) Dn := PostS.mono x1 hp
          have x2 : ExtS W1 σ1 env' W1 (σ1.set i (some (.ref a))) (env'.set i (.ex c fs)) := ExtS.set W1 σ1 env' rfl
          have fin : ∀ {σ3 W3 env3 st3}, ExtS W1 (σ1.set i (some (.ref a))) (env'.set i (.ex c fs)) W3 σ3 env3 → WOk G.X.K G.ca W3 st3 → RepE G.X.K G.ca (some (a, Value.ref (G.ca c), dd)) W3 σ3 env3 →
              ExtS W1 σ1 env' W3 (σ3.set i none) ((clr env3).set i .no) ∧ RepE G.X.K G.ca G.xc W3 (σ3.set i none) ((clr env3).set i .no) := fun {σ3 W3 env3 st3} e3 w3 re3 =>
            ⟨(x2.trans e3).trans ((clr_ext W3 σ3 env3).trans (ExtS.set W3 σ3 (clr env3) rfl)), (clr_ok re3).wipe1⟩
          cases hms : ms (env'.set i (.ex c fs)) st' with
          | nx env3 st3 => rw [hms] at hp1; exact fun σ3 W3 e3 w3 re3 => hp1 _ W3 (fin e3 w3 re3).1 w3 (fin e3 w3 re3).2
          | bk env3 st3 => rw [hms] at hp1; exact fun σ3 W3 e3 w3 re3 => hp1 _ W3 (fin e3 w3 re3).1 w3 (fin e3 w3 re3).2
          | ct env3 st3 => rw [hms] at hp1; exact fun σ3 W3 e3 w3 re3 => hp1 _ W3 (fin e3 w3 re3).1 w3 (fin e3 w3 re3).2
          | rt d3 st3 => rw [hms] at hp1; exact fun v W3 e3 w3 r3 => hp1 v W3 (x2.trans e3) w3 r3
          | exc env3 c3 fs3 st3 => rw [hms] at hp1; exact hp1.elim
          | bad => rw [hms] at hp1; exact hp1.elim
      · subst hbf
        exact hp σ1 dd W1 x1 w1 re1 rx
theorem rs_try_only (hst : G.X.stack = G.X.env :: G.X.outer) (hfr : G.X.env.frame = some G.X.env.locals) (hc : Names G.X x cv) (tk : Takes G.X G.E)
    (hsub : ∀ c b, sub c = some b → PySem.W.exmOne G.X.K (.ref (G.ca c)) cv = some b)
    (hb : ∀ (W : WX) (pn : List (Addr × Obj)) (xe : Value → Shared → Prop), Takes (G.X.tr pn xe) W → PassesOwn (model G.X.prog G.X.w) G.X.A G.X.env xe → RSs (G.tr W pn xe) body mb)
    (hsu : ∀ (a : Addr) (oe : Obj) (cls : Value) (d : Option Addr) (pn : List (Addr × Obj)), Zc cls d oe → (∃ vs, oe.data = .fields vs) → RSs (G.su a oe cls d pn) (b₀ :: suite) ms) (hx : G.xc = none) :
    RS G (.Try body [.ExceptHandler (some (.Name x np)) none (b₀ :: suite) pos'] [] [] pos) (sTry sub none mb ms) := by
  intro σ W env st Dn w re hp
  refine qs_of (ps_try_only (Wout := G.E) (tb := fun W' D σ H => ∀ pn xe, Takes (G.X.tr pn xe) W' → PassesOwn (model G.X.prog G.X.w) G.X.A G.X.env xe → QSs (G.tr W' pn xe) body D σ H)
    (ts := fun a cls d D σ H => ∀ oe pn, Zc cls d oe → (∃ vs, oe.data = .fields vs) → QSs (G.su a oe cls d pn) (b₀ :: suite) D σ H) hst hfr hc tk
    (fun W' pn xe t1 t2 => ⟨fun pins s σ H D I h => h pn xe t1 t2 pins s I⟩) (fun a oe cls d pn z1 z2 => ⟨fun pins s σ H D I h => h oe pn z1 z2 pins s I⟩)) ?_
  intro pn xe t1 t2
  refine hb _ pn xe t1 t2 σ W env st Dn w re ?_
  unfold sTry at hp
  cases hm : mb env st with
  | nx env' st' => rw [hm] at hp; exact hp
  | rt d st' => rw [hm] at hp; exact hp
  | bk env' st' => rw [hm] at hp; exact hp
  | ct env' st' => rw [hm] at hp; exact hp
  | bad => rw [hm] at hp; exact hp
  | exc env' c fs st' =>
    rw [hm] at hp
    dsimp only at hp
    intro σ1 dd W1 x1 w1 re1 rx
    cases hs : sub c with
    | none => rw [hs] at hp; exact hp.elim
    | some b =>
      rw [hs] at hp
      refine ⟨b, hsub c b hs, fun hbt a ha oe pn2 z1 z2 => ?_, fun hbf => ?_⟩
      · subst hbt
        dsimp only at hp
        refine hsu a oe _ dd pn2 z1 z2 _ W1 env' st' _ w1 ?_ ?_
        · refine ⟨re1.len, re1.sh, re1.oL, re1.oI, fun j c' fs' h => ?_, re1.sep⟩
          obtain ⟨a', d', h1, _⟩ := re1.ex j c' fs' h
          have h1 : G.xc = _ := h1
          rw [hx] at h1
          cases h1
        · have hp1 : PostS G W1 σ1 env' (suiteEnd none (ms env' st')) Dn := PostS.mono x1 hp
          have fin : ∀ {σ3 W3 env3 st3}, ExtS W1 σ1 env' W3 σ3 env3 → WOk G.X.K G.ca W3 st3 → RepE G.X.K G.ca (some (a, Value.ref (G.ca c), dd)) W3 σ3 env3 → ExtS W1 σ1 env' W3 σ3 (clr env3) ∧ RepE G.X.K G.ca G.xc W3 σ3 (clr env3) := fun {σ3 W3 env3 st3} e3 w3 re3 =>
            ⟨e3.trans (clr_ext W3 σ3 env3), clr_ok re3⟩
          cases hms : ms env' st' with
          | nx env3 st3 => rw [hms] at hp1; exact fun σ3 W3 e3 w3 re3 => hp1 _ W3 (fin e3 w3 re3).1 w3 (fin e3 w3 re3).2
          | bk env3 st3 => rw [hms] at hp1; exact fun σ3 W3 e3 w3 re3 => hp1 _ W3 (fin e3 w3 re3).1 w3 (fin e3 w3 re3).2
          | ct env3 st3 => rw [hms] at hp1; exact fun σ3 W3 e3 w3 re3 => hp1 _ W3 (fin e3 w3 re3).1 w3 (fin e3 w3 re3).2
          | rt d3 st3 => rw [hms] at hp1; exact fun v W3 e3 w3 r3 => hp1 v W3 e3 w3 r3
          | exc env3 c3 fs3 st3 => rw [hms] at hp1; exact hp1.elim
          | bad => rw [hms] at hp1; exact hp1.elim
      · subst hbf
        exact hp σ1 dd W1 x1 w1 re1 rx
/-! ### in a suite: the exception's field, isinstance -/
variable {a : Addr} {oe : Obj} {cls : Value} {d : Option Addr} {pn : List (Addr × Obj)} {e e2 : Expr} {cs : List Nat} {f : Str}
def eXf (cs : List Nat) (i : Nat) (f : Str) : EM := fun env st => match env[i]? with
  | some (.ex c fs) => if cs.contains c = true then (match fs.lookup f with
    | some d => .ok d st
    | none => .bad) else .bad
  | _ => .bad
theorem re_xf (hf : ∀ c ∈ cs, XfC G.X.K (G.ca c) ∧ PySem.W.findIn G.X.K (.ref (G.ca c)) f = some none) (hz : Zc cls d oe) (hd : ∃ vs, oe.data = .fields vs) (he : PE (G.X.suite a ((a, oe) :: pn)) e (tVar i)) (hb : attributeBase e f G.X.env (eval e G.X.env) = eval e G.X.env := by first | exact abase_ns rfl | rfl) :
    RE (G.su a oe cls d pn) (.Attribute e f pos) (eXf cs i f) := by
  intro σ W env st Q w re hp
  unfold eXf at hp
  cases h : env[i]? with
  | none => rw [h] at hp; exact hp.elim
  | some s =>
    rw [h] at hp
    cases s with
    | ex c fs =>
      dsimp only at hp
      by_cases hcs : cs.contains c = true
      · rw [if_pos hcs] at hp
        cases hl : fs.lookup f with
        | none => rw [hl] at hp; exact hp.elim
        | some d2 =>
          rw [hl] at hp
          obtain ⟨a', d', h1, h2, h3⟩ := re.ex i c fs h
          have h1 : (some (a, cls, d) : XC) = some (a', .ref (G.ca c), d') := h1
          injection h1 with h1
          injection h1 with h1 h1'
          injection h1' with h1' h1''
          subst h1 h1' h1''
          obtain ⟨g1, g2⟩ := hf c (by simpa using hcs)
          refine qe_of (pe_xf g1 g2 hz hd he hb) ?_
          rcases h3 with ⟨h3, _⟩ | ⟨p, ws, rfl, h4, h5, h6⟩
          · subst h3; cases hl
          · obtain ⟨v, g3, g4⟩ := h6.look hl
            exact ⟨.ref a, h2, rfl, rfl, p, ws, v, rfl, h5, g3, hp v W (Ext.refl W) w g4⟩
      · rw [if_neg hcs] at hp; exact hp.elim
    | no => exact hp.elim
    | sh d => exact hp.elim
    | oL d => exact hp.elim
    | oI c d => exact hp.elim
/-- isinstance(e, C), e the suite's exception -/
def eIsX (sub : Nat → Option Bool) (i : Nat) : EM := fun env st => match env[i]? with
  | some (.ex c _) => (match sub c with
    | some b => .ok (.bl b) st
    | none => .bad)
  | _ => .bad
theorem re_isX {v2 : V} {p p1 : Pos} (hK : ∀ c, (sub c).isSome = true → ExcC G.X.K (G.ca c) ∧ (PySem.W.clsIn G.X.K (G.ca c)).isSome = true) (hsub : ∀ c b, sub c = some b → PySem.W.kitOne G.X.K (.ref (G.ca c)) cv = some b) (hv2 : ∀ u, RelV v2 u → u = cv) (hz : Zc cls d oe) (hd : ∃ vs, oe.data = .fields vs)
    (he : PE (G.X.suite a ((a, oe) :: pn)) e (tVar i)) (he2 : PE (G.X.suite a ((a, oe) :: pn)) e2 (tC v2)) (hg : Gl (G.X.suite a ((a, oe) :: pn)) "isinstance") (hm : G.X.mg "isinstance" = none)
    (hs1 : starEach (e :: [e2]) G.X.env = (false, eval e G.X.env) :: starEach [e2] G.X.env := by exact starEach_ns rfl) (hs2 : starEach (e2 :: []) G.X.env = (false, eval e2 G.X.env) :: starEach [] G.X.env := by exact starEach_ns rfl) (hpl : (backTo pos (starEach [e2] G.X.env)).any (·.1) = false := by exact plain_ns rfl) :
    RE (G.su a oe cls d pn) (.Call (.Name "isinstance" p) [e, e2] [] pos) (eIsX sub i) := by
  intro σ W env st Q w re hp
  unfold eIsX at hp
  cases h : env[i]? with
  | none => rw [h] at hp; exact hp.elim
  | some s =>
    rw [h] at hp
    cases s with
    | ex c fs =>
      dsimp only at hp
      cases hsc : sub c with
      | none => rw [hsc] at hp; exact hp.elim
      | some b =>
        rw [hsc] at hp
        obtain ⟨a', d', h1, h2, h3⟩ := re.ex i c fs h
        have h1 : (some (a, cls, d) : XC) = some (a', .ref (G.ca c), d') := h1
        injection h1 with h1
        injection h1 with h1 h1'
        injection h1' with h1' h1''
        subst h1 h1' h1''
        obtain ⟨K1, K2⟩ := hK c (by rw [hsc]; rfl)
        have hcr : CallR (G.X.suite a ((a, oe) :: pn)) (.builtin "isinstance") (fun xs H Q => xs = [.ref a, v2] ∧ H = W.h ∧ Q (.bl b) H) := by
          intro pins s σ H xs us Q I r hh
          obtain ⟨rfl, rfl, q⟩ := hh
          cases r with
          | cons rx rr =>
            cases rr with
            | cons rt rr =>
              cases rr
              cases rx
              have ec := hv2 _ rt
              subst ec
              obtain ⟨hget, _⟩ := I.pin (a, oe) (List.mem_append.mpr (.inl List.mem_cons_self))
              have J : ∃ od, PySem.W.InstAt s.heap a oe (G.ca c) od := by
                obtain ⟨vs, hdv⟩ := hd
                have nc : PySem.W.notCls oe = true := by unfold PySem.W.notCls; rw [hdv] <;> rfl
                rcases h3 with ⟨_, rfl⟩ | ⟨q1, ws, rfl, _, h5, _⟩
                · exact ⟨none, hget, hz.1, nc, by rw [hz.2]; trivial⟩
                · obtain ⟨mA, hns, _⟩ := (show ObjOk G.X.prog G.X.w W.h s.heap q1 (.xd ws) from I.hok q1 _ h5)
                  obtain ⟨od, ho, _⟩ := lookIn_ns hns
                  exact ⟨some od, hget, hz.1, nc, by rw [hz.2]; exact ho⟩
              obtain ⟨od, J⟩ := J
              exact PySem.W.kia_one (PySem.W.kitx_exc K2 K1.hg K1.hk K1.hs K1.ha K1.hn K1.ht K1.hm) I.kIn J (hsub c b hsc) (fun z => nomatch z) fun tk => ⟨.bl b, W.h, I.kept (t' := tk) fun _ _ z => z, rfl, q⟩
        refine qe_of (pe_callB hcr hg hm (by decide +kernel) (pa_cons he (pa_cons he2 pa_nil hs2) hs1) (by decide) (by decide) hs1 hpl) ?_
        exact ⟨.ref a, h2, rfl, rfl, hp (.bl b) W (Ext.refl W) w (.bl b)⟩
    | no => exact hp.elim
    | sh d => exact hp.elim
    | oL d => exact hp.elim
    | oI c d => exact hp.elim
end
end Mi
/-! MiVal: operators, comparisons, truth and built-ins on data. -/
namespace Mi
open PySem PySem.Spec PyProof.Rows L2
/-! ### reading sequences off a tree -/
theorem Rep.sqL {K : PySem.W.Frag} {ca : Nat → Addr} {W : Wd} {x : V} {ds : List D} (r : Rep K ca W x (.lst ds)) : ∃ p xs, x = .ref p ∧ SqL K W.h p xs ∧ Reps K ca W xs ds := by
  cases r with
  | lst n h r => exact ⟨_, _, rfl, .inl (.inl h), r⟩
theorem Rep.sqF {K : PySem.W.Frag} {ca : Nat → Addr} {W : Wd} {x : V} {ds : List D} (r : Rep K ca W x (.fix ds)) : ∃ p xs, x = .ref p ∧ SqL K W.h p xs ∧ Reps K ca W xs ds := by
  cases r with
  | fix n h r => exact ⟨_, _, rfl, .inl h, r⟩
  | fixK h r => exact ⟨_, _, rfl, h.sq, r⟩
theorem Rep.atL {K : PySem.W.Frag} {ca : Nat → Addr} {W : Wd} {x : V} {ds : List D} (r : Rep K ca W x (.lst ds)) : ∃ p xs, x = .ref p ∧ ¬ W.av p ∧ W.h p = some (.lst xs) ∧ Reps K ca W xs ds := by
  cases r with
  | lst n h r => exact ⟨_, _, rfl, n, h, r⟩
theorem Rep.sqT {K : PySem.W.Frag} {ca : Nat → Addr} {W : Wd} {x : V} {ds : List D} (r : Rep K ca W x (.tup ds)) : ∃ p xs, x = .ref p ∧ SqT K W.h p xs ∧ Reps K ca W xs ds := by
  cases r with
  | tup n h r => exact ⟨_, _, rfl, .inl h, r⟩
  | tupK h r => exact ⟨_, _, rfl, h.sq, r⟩
/-- the list that a value is: a tree or a cell -/
def seqOf (d : D) (st : Sto) : Option (List D) := match d with
  | .lst ds => some ds
  | .fix ds => some ds
  | .cell n => match st[n]? with
    | some (.lst ds) => some ds
    | _ => none
  | _ => none
theorem seqOf_at {K : PySem.W.Frag} {ca : Nat → Addr} {W : Wd} {st : Sto} {x : V} {d : D} {ds : List D} (wk : WOk K ca W st) (r : Rep K ca W x d) (h : seqOf d st = some ds) : ∃ p xs, x = .ref p ∧ SqL K W.h p xs ∧ Reps K ca W xs ds := by
  cases d with
  | lst es => cases h; exact r.sqL
  | fix es => cases h; exact r.sqF
  | cell n =>
    unfold seqOf at h
    dsimp only at h
    cases e : st[n]? with
    | none => rw [e] at h; cases h
    | some c =>
      rw [e] at h
      cases c with
      | lst es =>
        cases h
        cases r with
        | cell hg =>
          obtain ⟨xs, h1, h2⟩ := wk.cell n _ _ hg e
          exact ⟨_, xs, rfl, .inl (.inl h1), h2⟩
      | ins _ _ => cases h
      | dk _ => cases h
      | tab _ _ => cases h
  | _ => cases h
/-! ### own defs, wherever they are called from -/
structure Df (G : Gx) (k : Nat) (f : Addr) (n : Nat) (m : List D → M D) : Prop where
  ok : ∃ fd ps, FnOk G.X.prog G.X.w G.X.K G.X.mg G.X.base (L2.CX G.X.prog G.X.w) k f fd ps (spM G.X.K G.ca n m) ∧ Binds G.X.K fd ps []
theorem Df.code {G : Gx} {k : Nat} {f : Addr} {n : Nat} {m : List D → M D} (F : Df G k f n m) (tk : Takes G.X G.E) {A' : Around} (hr : Room k A') (hA : A'.frames = G.X.A.frames) {σ : L2.St} {W : Wd} {st : Sto} {vs : List V} {ds : List D} {Q : VK} (wk : WOk G.X.K G.ca W st) (r : Reps G.X.K G.ca W vs ds)
    (hn : ds.length = n) (p : Post G W σ (m ds st) Q) {pins : List (Addr × Obj)} {s : Shared} {us : List Value} (I : Inv G.X pins σ W.h s) (rv : Vals vs us) : codeAny (model G.X.prog G.X.w) A' (.call (.ref f) ⟨us, []⟩) (fun r s' => match r with | .ok (.ret v) => EP G.X pins σ Q v s' | .ok _ => False | .error e => G.X.xe e s') s := by
  obtain ⟨fd, ps, F, hb⟩ := F.ok
  have h : spM G.X.K G.ca n m vs W.h Q (fun c d H' => G.E c d σ H') := ⟨W, st, ds, rfl, wk, r, hn, p⟩
  have hl : (us ++ []).length = ps.length := by
    rw [List.append_nil, ← rv.length]
    exact F.len _ _ _ _ h
  have e0 : Env0 G.X.prog G.X.w G.X.K G.X.mg G.X.base A' G.X.stack s W.h := by
    have e := I.env0
    exact ⟨by rw [hA]; exact e.frames, e.mod, e.bs, e.bsz, e.funs, e.frf, e.hok, e.bare⟩
  have bd := hb s us I.kIn hl
  rw [List.append_nil] at bd
  refine codeAny_mono (F.run A' G.X.stack s W.h ⟨us, []⟩ us vs Q _ hr e0 bd rv h) fun res s' hq => ?_
  cases res with
  | error ex => exact tk ex s' (XE.of_call I (fun _ _ _ z => z) hq)
  | ok fl =>
    cases fl with
    | ret u => exact I.after hq
    | next => exact hq.elim
    | brk => exact hq.elim
    | cont => exact hq.elim
theorem Df.run {G : Gx} {k : Nat} {f : Addr} {n : Nat} {m : List D → M D} (F : Df G k f n m) (tk : Takes G.X G.E) {A' : Around} (hr : Room k A') (hA : A'.frames = G.X.A.frames) {σ : L2.St} {W : Wd} {st : Sto} {vs : List V} {ds : List D} {Q : VK} (wk : WOk G.X.K G.ca W st) (r : Reps G.X.K G.ca W vs ds)
    (hn : ds.length = n) (p : Post G W σ (m ds st) Q) {pins : List (Addr × Obj)} {s : Shared} {us : List Value} (I : Inv G.X pins σ W.h s) (rv : Vals vs us) : wpAny (model G.X.prog G.X.w) A' (call (.ref f) us) (EP G.X pins σ Q) G.X.xe s :=
  wpAny_call (F.code tk hr hA wk r hn p I rv)
theorem in1_frames (A : Around) : A.in1.frames = A.frames := rfl
/-- special methods by class -/
abbrev Tab := List (Nat × (List D → M D))
def TabOk (G : Gx) (k : Nat) (name : Str) (n : Nat) (tab : Tab) : Prop := ∀ c g, tab.lookup c = some g → ∃ f, Df G k f n g ∧ PySem.W.findIn G.X.K (.ref (G.ca c)) name = some (some (.ref f)) ∧ PySem.W.isFn G.X.K (.ref f) = true ∧ PySem.W.selfFirst G.X.K (G.ca c) = true
theorem tb_nil {G : Gx} {k : Nat} {name : Str} {n : Nat} : TabOk G k name n [] := fun c g h => by cases h
theorem tb_cons {G : Gx} {k : Nat} {name : Str} {n c : Nat} {f : Addr} {g : List D → M D} {tab : Tab} (h1 : Df G k f n g) (h2 : PySem.W.findIn G.X.K (.ref (G.ca c)) name = some (some (.ref f))) (h3 : PySem.W.isFn G.X.K (.ref f) = true) (h4 : PySem.W.selfFirst G.X.K (G.ca c) = true) (t : TabOk G k name n tab) : TabOk G k name n ((c, g) :: tab) := fun c' g' e => by
  rw [List.lookup_cons] at e
  cases q : c' == c with
  | true =>
    rw [q] at e
    cases e
    rw [beq_iff_eq.mp q]
    exact ⟨f, h1, h2, h3, h4⟩
  | false => rw [q] at e; exact t c' g' e
theorem Df.mono {G : Gx} {j k : Nat} {f : Addr} {n : Nat} {m : List D → M D} (F : Df G j f n m) (h : j ≤ k) : Df G k f n m := by
  obtain ⟨fd, ps, F, b⟩ := F.ok
  exact ⟨fd, ps, F.mono h, b⟩
/-- an instance as the machine sees it -/
theorem inst_at {X : Cx} {pins : List (Addr × Obj)} {σ : L2.St} {H : Hp} {s : Shared} {a C dx : Addr} {ws : List (Str × V)} (I : Inv X pins σ H s) (h : H a = some (.ins C dx ws)) : ∃ ox od, PySem.W.InstAt s.heap a ox C (some od) := by
  obtain ⟨mA, J, _⟩ := ins_get I.hok h
  obtain ⟨od, J, _⟩ := J.look
  exact ⟨_, od, J⟩
/-- both of one own class -/
def ownOp (tab : Tab) (x y : D) : M D := fun st => match clsOf x st, clsOf y st with
  | some (c, _), some (c', _) => if c = c' then (match tab.lookup c with
    | some g => g [x, y] st
    | none => .bad) else .bad
  | _, _ => .bad
theorem cmpBack {X : Cx} {pins : List (Addr × Obj)} {σ : L2.St} {Q : VK} {v : Value} {s : Shared} (h : EP X pins σ Q v s) : PySem.W.CmpBack (EP X pins σ Q) v s := by
  obtain ⟨z, H', I', r, q⟩ := h
  cases v with
  | notImplemented => cases z <;> first | (obtain ⟨_, e⟩ := r; cases e) | cases r
  | _ => exact ⟨z, H', I', r, q⟩
section
variable {G : Gx} {k : Nat} {tab : Tab}
theorem own_bin {op : Operator} {σ : L2.St} {W : Wd} {st : Sto} {x y : V} {dx dy : D} {Q : VK} (tk : Takes G.X G.E) (hr : Room k G.X.A) (ht : TabOk G k (PySem.dunder op.info.2) 2 tab) (wk : WOk G.X.K G.ca W st) (rx : Rep G.X.K G.ca W x dx) (ry : Rep G.X.K G.ca W y dy)
    (p : Post G W σ (ownOp tab dx dy st) Q) : QO G (binaryOp op) σ x y W.h Q := by
  unfold ownOp at p
  cases h1 : clsOf dx st with
  | none => rw [h1] at p; exact p.elim
  | some cf =>
    obtain ⟨c, fs⟩ := cf
    rw [h1] at p
    cases h2 : clsOf dy st with
    | none => rw [h2] at p; exact p.elim
    | some cf2 =>
      obtain ⟨c2, fs2⟩ := cf2
      rw [h2] at p
      dsimp only at p
      by_cases hc : c = c2
      · rw [if_pos hc] at p
        subst hc
        cases hg : tab.lookup c with
        | none => rw [hg] at p; exact p.elim
        | some g =>
          rw [hg] at p
          obtain ⟨f, D1, f1, f2, f3⟩ := ht c g hg
          obtain ⟨a, d1, ws, rfl, ha, _⟩ := clsOf_at wk rx h1
          obtain ⟨b, d2, ws2, rfl, hb, _⟩ := clsOf_at wk ry h2
          intro pins s v u I rv ru
          cases rv
          cases ru
          obtain ⟨ox, od, J⟩ := inst_at I ha
          obtain ⟨oy, od2, J2⟩ := inst_at I hb
          obtain ⟨m, hF⟩ := I.fr
          refine PySem.W.binop_K hF I.ok.mod.kin J J2.type f3 f1 f2 ?_
          exact thn (D1.run tk hr rfl wk (.cons rx (.cons ry .nil)) rfl p I (.cons rfl (.cons rfl .nil))) fun _ _ z => cmpBack z
      · rw [if_neg hc] at p; exact p.elim
/-! ### + - * // % ** & | ^ -/
def opAdd (tab : Tab) : D → D → M D := fun x y st => match x, y with
  | .int i, .int j => .ok (.int (i + j)) st
  | .str a, .str b => if a.length + b.length ≤ LIM then .ok (.str (a ++ b)) st else .bad
  | .lst a, .lst b => if a.length + b.length ≤ LIM then .ok (.lst (a ++ b)) st else .bad
  | x, y => ownOp tab x y st
theorem od_add (tk : Takes G.X G.E) (hr : Room k G.X.A) (ht : TabOk G k (PySem.dunder (Operator.Add).info.2) 2 tab) : OpD G (binaryOp .Add) (opAdd tab) := by
  intro σ W st x y dx dy Q wk rx ry p
  unfold opAdd at p
  split at p
  · rename_i i j
    cases rx; cases ry
    exact qo_of op_add ⟨i, j, rfl, rfl, p _ W (Ext.refl W) wk (.int _)⟩
  · rename_i a b
    cases rx; cases ry
    by_cases hl : a.length + b.length ≤ LIM
    · rw [if_pos hl] at p
      exact qo_of op_add_str ⟨a, b, rfl, rfl, lim_le hl, p _ W (Ext.refl W) wk (.str _)⟩
    · rw [if_neg hl] at p; exact p.elim
  · rename_i a b
    by_cases hl : a.length + b.length ≤ LIM
    · rw [if_pos hl] at p
      obtain ⟨p1, xs, rfl, _, s1, r1⟩ := rx.atL
      obtain ⟨p2, ys, rfl, _, s2, r2⟩ := ry.atL
      refine qo_of op_cat ⟨p1, p2, xs, ys, rfl, rfl, s1, s2, lim_le (by rw [r1.length, r2.length]; exact hl), fun q hq => ?_⟩
      have e := W.lay_ext (o := .lst (xs ++ ys)) hq
      exact p (.ref q) (W.lay q (.lst (xs ++ ys)) hq) e (wk.lay hq) (.lst (W.lay_nav hq) upd_same ((r1.append r2).mono e))
    · rw [if_neg hl] at p; exact p.elim
  · exact own_bin tk hr ht wk rx ry p
def opSub (tab : Tab) : D → D → M D := fun x y st => match x, y with
  | .int i, .int j => .ok (.int (i - j)) st
  | x, y => ownOp tab x y st
theorem od_sub (tk : Takes G.X G.E) (hr : Room k G.X.A) (ht : TabOk G k (PySem.dunder (Operator.Sub).info.2) 2 tab) : OpD G (binaryOp .Sub) (opSub tab) := by
  intro σ W st x y dx dy Q wk rx ry p
  unfold opSub at p
  split at p
  · rename_i i j
    cases rx; cases ry
    exact qo_of op_sub ⟨i, j, rfl, rfl, p _ W (Ext.refl W) wk (.int _)⟩
  · exact own_bin tk hr ht wk rx ry p
def opMul (tab : Tab) : D → D → M D := fun x y st => match x, y with
  | .int i, .int j => if (-(2 ^ 64) < i ∧ i < 2 ^ 64) ∨ (-(2 ^ 64) < j ∧ j < 2 ^ 64) then .ok (.int (i * j)) st else .bad
  | .str a, .int j => if 0 ≤ j ∧ j ≤ 1 then .ok (.str (if j = 1 then a else ⟨#[]⟩)) st else .bad
  | x, y => ownOp tab x y st
end
end Mi
/-! MiOps: more operators, comparisons, truth, calls of built-ins, subscripts, methods, walks. -/
namespace Mi
open PySem PySem.Spec PyProof.Rows L2
section
variable {G : Gx} {k : Nat} {tab : Tab}
theorem od_mul (tk : Takes G.X G.E) (hr : Room k G.X.A) (ht : TabOk G k (PySem.dunder (Operator.Mult).info.2) 2 tab) : OpD G (binaryOp .Mult) (opMul tab) := by
  intro σ W st x y dx dy Q wk rx ry p
  unfold opMul at p
  split at p
  · rename_i i j
    cases rx; cases ry
    by_cases hc : (-(2 ^ 64) < i ∧ i < 2 ^ 64) ∨ (-(2 ^ 64) < j ∧ j < 2 ^ 64)
    · rw [if_pos hc] at p
      exact qo_of op_mul ⟨i, j, rfl, rfl, hc, p _ W (Ext.refl W) wk (.int _)⟩
    · rw [if_neg hc] at p; exact p.elim
  · rename_i a j
    cases rx; cases ry
    by_cases hj : 0 ≤ j ∧ j ≤ 1
    · rw [if_pos hj] at p
      intro pins s v u I rv ru
      obtain ⟨t, rfl⟩ := rv
      obtain ⟨t2, rfl⟩ := ru
      have p' := p _ W (Ext.refl W) wk (.str _)
      refine PySem.P.mul_str (by
          rw [decide_eq_false (by omega), decide_eq_false (by omega)]; rfl) (fun h1 h2 => ?_) (fun h1 h2 => ?_) ?_
      · have : j = 1 := by omega
        subst this
        cases h2
      · have : j = 1 := by omega
        subst this
        cases h2
      · by_cases h1 : j = 1
        · rw [if_pos h1] at p'
          rw [if_neg (by omega), if_pos (by rw [h1]; rfl)]
          exact ⟨.str a, W.h, I, ⟨_, rfl⟩, p'⟩
        · rw [if_neg h1] at p'
          rw [if_pos (by omega)]
          exact ⟨by decide, .str ⟨#[]⟩, W.h, I.tok _, ⟨_, rfl⟩, p'⟩
    · rw [if_neg hj] at p; exact p.elim
  · exact own_bin tk hr ht wk rx ry p
def opMod : D → D → M D := fun x y st => match x, y with
  | .int i, .int j => if j ≠ 0 then .ok (.int (i.fmod j)) st else .bad
  | _, _ => .bad
theorem od_mod : OpD G (binaryOp .Mod) opMod := by
  intro σ W st x y dx dy Q wk rx ry p
  unfold opMod at p
  split at p
  · rename_i i j
    cases rx; cases ry
    by_cases hc : j ≠ 0
    · rw [if_pos hc] at p
      exact qo_of op_modN ⟨i, j, rfl, rfl, hc, p _ W (Ext.refl W) wk (.int _)⟩
    · rw [if_neg hc] at p; exact p.elim
  · exact p.elim
def opFdv : D → D → M D := fun x y st => match x, y with
  | .int i, .int j => if j ≠ 0 ∧ j.natAbs < 1073741824 then .ok (.int (i.fdiv j)) st else .bad
  | _, _ => .bad
theorem od_fdv : OpD G (binaryOp .FloorDiv) opFdv := by
  intro σ W st x y dx dy Q wk rx ry p
  unfold opFdv at p
  split at p
  · rename_i i j
    cases rx; cases ry
    by_cases hc : j ≠ 0 ∧ j.natAbs < 1073741824
    · rw [if_pos hc] at p
      exact qo_of op_fdivN ⟨i, j, rfl, rfl, hc, p _ W (Ext.refl W) wk (.int _)⟩
    · rw [if_neg hc] at p; exact p.elim
  · exact p.elim
def opPow : D → D → M D := fun x y st => match x, y with
  | .int i, .int j => if 0 ≤ j ∧ j ≤ 1000000 ∧ i.natAbs < 2 ^ 64 then .ok (.int (i ^ j.toNat)) st else .bad
  | _, _ => .bad
theorem od_pow : OpD G (binaryOp .Pow) opPow := by
  intro σ W st x y dx dy Q wk rx ry p
  unfold opPow at p
  split at p
  · rename_i i j
    cases rx; cases ry
    by_cases hc : 0 ≤ j ∧ j ≤ 1000000 ∧ i.natAbs < 2 ^ 64
    · rw [if_pos hc] at p
      exact qo_of op_pow ⟨i, j, rfl, rfl, hc, p _ W (Ext.refl W) wk (.int _)⟩
    · rw [if_neg hc] at p; exact p.elim
  · exact p.elim
/-- an operator that only own classes have here -/
theorem od_own {op : Operator} (tk : Takes G.X G.E) (hr : Room k G.X.A) (ht : TabOk G k (PySem.dunder op.info.2) 2 tab) : OpD G (binaryOp op) (ownOp tab) := fun σ W st x y dx dy Q wk rx ry p => own_bin tk hr ht wk rx ry p
def unNeg : D → M D := fun x st => match x with
  | .int i => .ok (.int (-i)) st
  | _ => .bad
theorem ud_neg : UnD G (unaryOp .USub) unNeg := by
  intro σ W st x dx Q wk rx p
  unfold unNeg at p
  split at p
  · rename_i i
    cases rx
    exact qu_of un_neg ⟨i, rfl, p _ W (Ext.refl W) wk (.int _)⟩
  · exact p.elim
def ownUn (tab : Tab) (x : D) : M D := fun st => match clsOf x st with
  | some (c, _) => (match tab.lookup c with
    | some g => g [x] st
    | none => .bad)
  | none => .bad
theorem ud_inv (tk : Takes G.X G.E) (hr : Room k G.X.A) (ht : TabOk G k "__invert__" 1 tab) : UnD G (unaryOp .Invert) (ownUn tab) := by
  intro σ W st x dx Q wk rx p
  unfold ownUn at p
  cases h1 : clsOf dx st with
  | none => rw [h1] at p; exact p.elim
  | some cf =>
    obtain ⟨c, fs⟩ := cf
    rw [h1] at p
    dsimp only at p
    cases hg : tab.lookup c with
    | none => rw [hg] at p; exact p.elim
    | some g =>
      rw [hg] at p
      obtain ⟨f, D1, f1, f2, f3⟩ := ht c g hg
      obtain ⟨a, d1, ws, rfl, ha, _⟩ := clsOf_at wk rx h1
      intro pins s v I rv
      cases rv
      obtain ⟨ox, od, J⟩ := inst_at I ha
      obtain ⟨m, hF⟩ := I.fr
      exact PySem.W.ksp_inv hF I.ok.mod.kin J f1 f2 (D1.run tk hr rfl wk (.cons rx .nil) rfl p I (.cons rfl .nil))
/-! ### comparisons of numbers and texts -/
def cmpI (f : Int → Int → Bool) : D → D → M D := fun x y st => match x, y with
  | .int i, .int j => .ok (.bl (f i j)) st
  | _, _ => .bad
theorem cd_int {op : CmpOp} {f : Int → Int → Bool} (h : OpR G.X (compareOp op) (rI0 fun i j => .bl (f i j))) : OpD G (compareOp op) (cmpI f) := by
  intro σ W st x y dx dy Q wk rx ry p
  unfold cmpI at p
  split at p
  · rename_i i j
    cases rx; cases ry
    exact qo_of h ⟨i, j, rfl, rfl, p _ W (Ext.refl W) wk (.bl _)⟩
  · exact p.elim
theorem cd_lt : OpD G (compareOp .Lt) (cmpI fun i j => decide (i < j)) := cd_int op_lt
theorem cd_gt : OpD G (compareOp .Gt) (cmpI fun i j => decide (j < i)) := cd_int op_gt
theorem cd_ge : OpD G (compareOp .GtE) (cmpI fun i j => decide (j ≤ i)) := cd_int op_ge
def ownCmp (tab : Tab) (x y : D) : M D := fun st => match clsOf x st with
  | some (c, _) => (match tab.lookup c with
    | some g => g [x, y] st
    | none => .bad)
  | none => .bad
/-- a value's type, as the machine looks -/
def TyV (X : Cx) (x : V) (H : Hp) (t : Value) : Prop := ∀ pins σ s u, Inv X pins σ H s → RelV x u → PySem.W.Looks (model X.prog X.w) s.heap (typeOf u) t
theorem own_cmp {op : CmpOp} {σ : L2.St} {W : Wd} {st : Sto} {x y : V} {dx dy : D} {Q : VK} (tk : Takes G.X G.E) (hr : Room k G.X.A) (ht : TabOk G k (cmpInfo op).2.1 2 tab) (hop : compareOp op = richCompare op) (wk : WOk G.X.K G.ca W st) (rx : Rep G.X.K G.ca W x dx) (ry : Rep G.X.K G.ca W y dy)
    (hty : ∀ c fs, clsOf dx st = some (c, fs) → ∃ tb, TyV G.X y W.h tb ∧ PySem.W.notFirst G.X.K (G.ca c) tb = true) (p : Post G W σ (ownCmp tab dx dy st) Q) : QO G (compareOp op) σ x y W.h Q := by
  unfold ownCmp at p
  cases h1 : clsOf dx st with
  | none => rw [h1] at p; exact p.elim
  | some cf =>
    obtain ⟨c, fs⟩ := cf
    obtain ⟨tb, hty, hnf⟩ := hty c fs h1
    rw [h1] at p
    dsimp only at p
    cases hg : tab.lookup c with
    | none => rw [hg] at p; exact p.elim
    | some g =>
      rw [hg] at p
      obtain ⟨f, D1, f1, f2, f3⟩ := ht c g hg
      obtain ⟨a, d1, ws, rfl, ha, _⟩ := clsOf_at wk rx h1
      intro pins s v u I rv ru
      cases rv
      obtain ⟨ox, od, J⟩ := inst_at I ha
      obtain ⟨m, hF⟩ := I.fr
      rw [hop]
      refine PySem.W.cmp_K hr.units0 hF I.ok.mod.kin J (hty pins σ s u I ru) hnf f1 f2 ?_
      exact thn (D1.run tk hr rfl wk (.cons rx (.cons ry .nil)) rfl p I (.cons rfl (.cons ru .nil))) fun _ _ z => cmpBack z
end
end Mi
/-! MiOps2: types of values, isinstance, ==, in, is, truth. -/
namespace Mi
open PySem PySem.Spec PyProof.Rows L2
/-! ### what type a value is of -/
inductive Tag where
  | non | bl | int | str | lst | tup | dic | own (c : Nat)
  deriving DecidableEq
def tagV (ca : Nat → Addr) : Tag → Value
  | .non => .type "NoneType"
  | .bl => .type "bool"
  | .int => .type "int"
  | .str => .type "str"
  | .lst => .type "list"
  | .tup => .type "tuple"
  | .dic => .type "dict"
  | .own c => .ref (ca c)
def tagOf (d : D) (st : Sto) : Option Tag := match d with
  | .non => some .non
  | .bl _ => some .bl
  | .int _ => some .int
  | .str _ => some .str
  | .lst _ => some .lst
  | .fix _ => some .lst
  | .tup _ => some .tup
  | .ins c _ => some (.own c)
  | .cell n => (match st[n]? with
    | some (.lst _) => some .lst
    | some (.ins c _) => some (.own c)
    | some (.dk _) => some .dic
    | _ => none)
  | _ => none
/-- an own class whose instances are asked for their class -/
structure ClsX (K : PySem.W.Frag) (C : Addr) : Prop where
  cl : Cls K C
  ha : PySem.W.findIn K (.ref C) "__class__" = some (some (.builtin "object.__class__"))
  hn : PySem.W.specialIn K (.builtin "object.__class__") "__get__" = some (some (.builtin "getset_descriptor.__get__"))
  htk : PySem.W.takesIn K (.builtin "object.__class__") = some true
  hm : PySem.W.mroIn K C (.type "object") = some true
theorem tag_tyx {K : PySem.W.Frag} {ca : Nat → Addr} {W : Wd} {st : Sto} {x : V} {d : D} {t : Tag} (wk : WOk K ca W st) (r : Rep K ca W x d) (h : tagOf d st = some t) (hc : ∀ c, t = .own c → ClsX K (ca c)) : TyX K W.h x (tagV ca t) := by
  cases r with
  | non => cases h; exact .base .non
  | bl b => cases h; exact .base (.bl b)
  | int i => cases h; exact .base (.int i)
  | str z => cases h; exact .base (.str z)
  | lst n hh rr => cases h; exact .base (.lst hh)
  | fix n hh rr =>
    cases h
    rcases hh with hh | ⟨o, hh⟩
    · exact .base (.lst hh)
    · exact .base (.frz hh)
  | fixK hh rr =>
    cases h
    rcases hh with hh | ⟨o, its, n, h1, h2, _⟩
    · exact (rd_none hh).elim
    · exact .kList h1 h2
  | tup n hh rr =>
    cases h
    rcases hh with hh | ⟨o, hh⟩
    · exact .base (.tup hh)
    · exact .fTuple hh
  | tupK hh rr =>
    cases h
    rcases hh with hh | ⟨o, its, n, h1, h2, _⟩
    · exact (rd_none hh).elim
    · exact .kTuple h1 h2
  | ins n hh rf =>
    cases h
    have z := hc _ rfl
    exact .base (.ins hh z.cl z.ha z.hn z.htk z.hm)
  | cell hg =>
    rename_i n p
    unfold tagOf at h
    dsimp only at h
    cases e : st[n]? with
    | none => rw [e] at h; cases h
    | some cl =>
      rw [e] at h
      have co := wk.cell n p cl hg e
      cases cl with
      | lst ds => cases h; obtain ⟨xs, h1, _⟩ := co; exact .base (.lst h1)
      | ins c fs =>
        cases h
        obtain ⟨dx, ws, h1, _⟩ := co
        have z := hc _ rfl
        exact .base (.ins h1 z.cl z.ha z.hn z.htk z.hm)
      | dk kvs => cases h; obtain ⟨ws, h1, _⟩ := co; exact .base (.dK h1)
      | tab n q => cases h
  | cls c => cases h
  | ty n => cases h
theorem tag_ty {G : Gx} {W : Wd} {st : Sto} {x : V} {d : D} {t : Tag} (wk : WOk G.X.K G.ca W st) (r : Rep G.X.K G.ca W x d) (h : tagOf d st = some t) (hc : ∀ c, t = .own c → ClsX G.X.K (G.ca c)) : TyV G.X x W.h (tagV G.ca t) := by
  intro pins σ s u I ru
  obtain ⟨P, Z, hp, _⟩ := kit_of I ru (tag_tyx wk r h hc)
  exact Z.ty _ _ I.kIn hp
section
variable {G : Gx} {k : Nat} {tab : Tab} {e e2 : Expr} {ma : EM} {p pos : Pos}
/-! ### isinstance(x, C) -/
def eIsi (f : Tag → Option Bool) (a : EM) : EM := fun env st => (a env st).bind fun x s => match tagOf x s with
  | some t => (match f t with
    | some b => .ok (.bl b) s
    | none => .bad)
  | none => .bad
theorem re_isi {v2 : V} {cv : Value} {f : Tag → Option Bool} (hK : ∀ c, (f (.own c)).isSome = true → ClsX G.X.K (G.ca c)) (hsub : ∀ t b, f t = some b → PySem.W.kitOne G.X.K (tagV G.ca t) cv = some b) (hv2 : ∀ u, RelV v2 u → u = cv)
    (ha : RE G e ma) (he2 : PE G.X e2 (tC v2)) (hg : Gl G.X "isinstance") (hm : G.X.mg "isinstance" = none)
    (hs1 : starEach (e :: [e2]) G.X.env = (false, eval e G.X.env) :: starEach [e2] G.X.env := by exact starEach_ns rfl) (hs2 : starEach (e2 :: []) G.X.env = (false, eval e2 G.X.env) :: starEach [] G.X.env := by exact starEach_ns rfl) (hpl : (backTo pos (starEach [e2] G.X.env)).any (·.1) = false := by exact plain_ns rfl) :
    RE G (.Call (.Name "isinstance" p) [e, e2] [] pos) (eIsi f ma) := by
  intro σ W env st Q w re hp
  have hcr : CallR G.X (.builtin "isinstance") (fun xs H Q => ∃ x t b, xs = [x, v2] ∧ TyX G.X.K H x t ∧ PySem.W.kitOne G.X.K t cv = some b ∧ Q (.bl b) H) := by
    intro pins s σ H xs us Q I r hh
    obtain ⟨x, t, b, rfl, ty, hk, q⟩ := hh
    cases r with
    | cons rx rr =>
      cases rr with
      | cons rt rr =>
        cases rr
        have ec := hv2 _ rt
        subst ec
        obtain ⟨P, Z, hP, hne⟩ := kit_of I rx ty
        exact PySem.W.kia_one Z I.kIn hP hk hne fun tk => ⟨.bl b, H, I.kept (t' := tk) fun _ _ z => z, rfl, q⟩
  refine qe_of (pe_callB hcr hg hm (by decide +kernel) (pa_cons pe_q (pa_cons he2 pa_nil hs2) hs1) (by decide) (by decide) hs1 hpl) ?_
  refine ha σ W env st _ w re (bindEE hp fun d s1 x W1 e1 w1 r1 p1 => ?_)
  cases ht : tagOf d s1 with
  | none => rw [ht] at p1; exact p1.elim
  | some t =>
    rw [ht] at p1
    dsimp only at p1
    cases hf : f t with
    | none => rw [hf] at p1; exact p1.elim
    | some b =>
      rw [hf] at p1
      refine ⟨x, _, b, rfl, tag_tyx w1 r1 ht (fun c hc => hK c (by rw [← hc, hf]; rfl)), hsub t b hf, p1 _ W1 (Ext.refl W1) w1 (.bl b)⟩
/-! ### == -/
mutual
def D.pd : D → Option PyData
  | .non => some .none
  | .bl b => some (.bool b)
  | .int i => some (.int i)
  | .str x => some (.str x)
  | .lst ds => (D.pds ds).map .list
  | .fix ds => (D.pds ds).map .list
  | .tup ds => (D.pds ds).map .tuple
  | _ => none
def D.pds : List D → Option (List PyData)
  | [] => some []
  | d :: ds => (D.pd d).bind fun a => (D.pds ds).map fun r => a :: r
end
end
end Mi
/-! MiOps3: ==, in, is, truth, len and other built-ins. -/
namespace Mi
open PySem PySem.Spec PyProof.Rows L2
section
variable {K : PySem.W.Frag} {ca : Nat → Addr} {W : Wd}
mutual
theorem Rep.dp : ∀ {v : V} {d : D} {q : PyData}, Rep K ca W v d → D.pd d = some q → Dp K W.h v q
  | _, _, _, .non, h => by cases h; exact .non
  | _, _, _, .bl b, h => by cases h; exact .bl b
  | _, _, _, .int i, h => by cases h; exact .int i
  | _, _, _, .str x, h => by cases h; exact .str x
  | _, _, _, .lst (ds := ds) n hh r, h => by
    unfold D.pd at h
    cases e : D.pds ds with
    | none => rw [e] at h; cases h
    | some qs => rw [e] at h; cases h; exact .lst (.inl (.inl hh)) (Reps.dp r e)
  | _, _, _, .fix (ds := ds) n hh r, h => by
    unfold D.pd at h
    cases e : D.pds ds with
    | none => rw [e] at h; cases h
    | some qs => rw [e] at h; cases h; exact .lst (.inl hh) (Reps.dp r e)
  | _, _, _, .fixK (ds := ds) hh r, h => by
    unfold D.pd at h
    cases e : D.pds ds with
    | none => rw [e] at h; cases h
    | some qs => rw [e] at h; cases h; exact .lst hh.sq (Reps.dp r e)
  | _, _, _, .tup (ds := ds) n hh r, h => by
    unfold D.pd at h
    cases e : D.pds ds with
    | none => rw [e] at h; cases h
    | some qs => rw [e] at h; cases h; exact .tup (.inl hh) (Reps.dp r e)
  | _, _, _, .tupK (ds := ds) hh r, h => by
    unfold D.pd at h
    cases e : D.pds ds with
    | none => rw [e] at h; cases h
    | some qs => rw [e] at h; cases h; exact .tup hh.sq (Reps.dp r e)
  | _, _, _, .ins n hh r, h => by cases h
  | _, _, _, .cell hh, h => by cases h
  | _, _, _, .cls c, h => by cases h
  | _, _, _, .ty n, h => by cases h
theorem Reps.dp : ∀ {vs : List V} {ds : List D} {qs : List PyData}, Reps K ca W vs ds → D.pds ds = some qs → DpAll K W.h vs qs
  | _, _, _, .nil, h => by cases h; exact .nil
  | _, _, _, .cons (d := d) (ds := ds) r t, h => by
    unfold D.pds at h
    cases e : D.pd d with
    | none => rw [e] at h; cases h
    | some q =>
      rw [e] at h
      cases e2 : D.pds ds with
      | none => rw [e2] at h; cases h
      | some qs => rw [e2] at h; cases h; exact .cons (Rep.dp r e) (Reps.dp t e2)
end
end
/-- as data; a cell's list is looked up -/
def pdT (d : D) (st : Sto) : Option PyData := match d with
  | .cell n => (match st[n]? with
    | some (.lst ds) => (D.pds ds).map .list
    | _ => none)
  | d => D.pd d
theorem pdT_at {K : PySem.W.Frag} {ca : Nat → Addr} {W : Wd} {st : Sto} {x : V} {d : D} {q : PyData} (wk : WOk K ca W st) (r : Rep K ca W x d) (h : pdT d st = some q) : Dp K W.h x q := by
  cases d with
  | cell n =>
    unfold pdT at h
    dsimp only at h
    cases e : st[n]? with
    | none => rw [e] at h; cases h
    | some c =>
      rw [e] at h
      cases c with
      | lst ds =>
        dsimp only at h
        cases e2 : D.pds ds with
        | none => rw [e2] at h; cases h
        | some qs =>
          rw [e2] at h
          cases h
          cases r with
          | cell hg =>
            obtain ⟨xs, h1, h2⟩ := wk.cell n _ _ hg e
            exact .lst (.inl (.inl h1)) (h2.dp e2)
      | ins _ _ => cases h
      | dk _ => cases h
      | tab _ _ => cases h
  | _ => exact r.dp h
def eqD (tab : Tab) (nf : Nat → Tag → Bool) : D → D → M D := fun x y st => match x, y with
  | .int i, .int j => .ok (.bl (decide (i = j))) st
  | .str a, .str b => .ok (.bl (decide (a = b))) st
  | .bl a, .bl b => .ok (.bl (decide (a = b))) st
  | x, y => match pdT x st, pdT y st with
    | some a, some b => if SeqAt.shaped a = true ∧ SeqAt.shaped b = true then .ok (.bl (PyData.eqv a b)) st else .bad
    | _, _ => (match clsOf x st, tagOf y st with
      | some (c, _), some t => if nf c t = true then ownCmp tab x y st else .bad
      | _, _ => .bad)
def neD : D → D → M D := fun x y st => match x, y with
  | .int i, .int j => .ok (.bl (!decide (i = j))) st
  | .str a, .str b => .ok (.bl (!decide (a = b))) st
  | .bl a, .bl b => .ok (.bl (!decide (a = b))) st
  | x, y => match pdT x st, pdT y st with
    | some a, some b => if SeqAt.shaped a = true ∧ SeqAt.shaped b = true then .ok (.bl (!PyData.eqv a b)) st else .bad
    | _, _ => .bad
section
variable {G : Gx} {k : Nat} {tab : Tab}
theorem dec_vi (i j : Int) : decide (V.int i = V.int j) = decide (i = j) := by
  by_cases h : i = j
  · subst h; simp
  · rw [decide_eq_false h, decide_eq_false (fun z => h (V.int.inj z))]
theorem dec_vs (i j : Str) : decide (V.str i = V.str j) = decide (i = j) := by
  by_cases h : i = j
  · subst h; simp
  · rw [decide_eq_false h, decide_eq_false (fun z => h (V.str.inj z))]
theorem dec_vb (i j : Bool) : decide (V.bl i = V.bl j) = decide (i = j) := by
  by_cases h : i = j
  · subst h; simp
  · rw [decide_eq_false h, decide_eq_false (fun z => h (V.bl.inj z))]
theorem cd_eq {nf : Nat → Tag → Bool} (tk : Takes G.X G.E) (hr : Room k G.X.A) (ht : TabOk G k "__eq__" 2 tab) (hnf : ∀ c t, nf c t = true → PySem.W.notFirst G.X.K (G.ca c) (tagV G.ca t) = true ∧ ∀ c', t = .own c' → ClsX G.X.K (G.ca c')) : OpD G (compareOp .Eq) (eqD tab nf) := by
  intro σ W st x y dx dy Q wk rx ry p
  unfold eqD at p
  split at p
  · rename_i i j
    cases rx; cases ry
    exact qo_of op_eq ⟨rfl, by rw [dec_vi]; exact p _ W (Ext.refl W) wk (.bl _)⟩
  · rename_i i j
    cases rx; cases ry
    exact qo_of op_eq ⟨rfl, by rw [dec_vs]; exact p _ W (Ext.refl W) wk (.bl _)⟩
  · rename_i i j
    cases rx; cases ry
    exact qo_of op_eq ⟨rfl, by rw [dec_vb]; exact p _ W (Ext.refl W) wk (.bl _)⟩
  · split at p
    · rename_i a b ha hb
      by_cases hs : SeqAt.shaped a = true ∧ SeqAt.shaped b = true
      · rw [if_pos hs] at p
        exact qo_of (op_eqD hr.units) ⟨a, b, pdT_at wk rx ha, pdT_at wk ry hb, hs.1, hs.2, p _ W (Ext.refl W) wk (.bl _)⟩
      · rw [if_neg hs] at p; exact p.elim
    · split at p
      · rename_i c fs t hc htg
        by_cases hn : nf c t = true
        · rw [if_pos hn] at p
          refine own_cmp (op := .Eq) tk hr ht rfl wk rx ry (fun c' fs' e => ?_) p
          rw [hc] at e
          cases e
          exact ⟨_, tag_ty wk ry htg (hnf c t hn).2, (hnf c t hn).1⟩
        · rw [if_neg hn] at p; exact p.elim
      · exact p.elim
theorem cd_ne (hr : Room k G.X.A) : OpD G (compareOp .NotEq) neD := by
  intro σ W st x y dx dy Q wk rx ry p
  unfold neD at p
  split at p
  · rename_i i j
    cases rx; cases ry
    exact qo_of op_ne ⟨rfl, by rw [dec_vi]; exact p _ W (Ext.refl W) wk (.bl _)⟩
  · rename_i i j
    cases rx; cases ry
    exact qo_of op_ne ⟨rfl, by rw [dec_vs]; exact p _ W (Ext.refl W) wk (.bl _)⟩
  · rename_i i j
    cases rx; cases ry
    exact qo_of op_ne ⟨rfl, by rw [dec_vb]; exact p _ W (Ext.refl W) wk (.bl _)⟩
  · split at p
    · rename_i a b ha hb
      by_cases hs : SeqAt.shaped a = true ∧ SeqAt.shaped b = true
      · rw [if_pos hs] at p
        exact qo_of (op_neD hr.units) ⟨a, b, pdT_at wk rx ha, pdT_at wk ry hb, hs.1, hs.2, p _ W (Ext.refl W) wk (.bl _)⟩
      · rw [if_neg hs] at p; exact p.elim
    · exact p.elim
/-- <= : numbers, own classes -/
def leD (tab : Tab) (nf : Nat → Tag → Bool) : D → D → M D := fun x y st => match x, y with
  | .int i, .int j => .ok (.bl (decide (i ≤ j))) st
  | x, y => (match clsOf x st, tagOf y st with
      | some (c, _), some t => if nf c t = true then ownCmp tab x y st else .bad
      | _, _ => .bad)
theorem cd_le {nf : Nat → Tag → Bool} (tk : Takes G.X G.E) (hr : Room k G.X.A) (ht : TabOk G k "__le__" 2 tab) (hnf : ∀ c t, nf c t = true → PySem.W.notFirst G.X.K (G.ca c) (tagV G.ca t) = true ∧ ∀ c', t = .own c' → ClsX G.X.K (G.ca c')) : OpD G (compareOp .LtE) (leD tab nf) := by
  intro σ W st x y dx dy Q wk rx ry p
  unfold leD at p
  split at p
  · rename_i i j
    cases rx; cases ry
    exact qo_of op_le ⟨i, j, rfl, rfl, p _ W (Ext.refl W) wk (.bl _)⟩
  · split at p
    · rename_i c fs t hc htg
      by_cases hn : nf c t = true
      · rw [if_pos hn] at p
        refine own_cmp (op := .LtE) tk hr ht rfl wk rx ry (fun c' fs' e => ?_) p
        rw [hc] at e
        cases e
        exact ⟨_, tag_ty wk ry htg (hnf c t hn).2, (hnf c t hn).1⟩
      · rw [if_neg hn] at p; exact p.elim
    · exact p.elim
/-! ### in, not in -/
/-- y stands in x somewhere -/
def subS (y x : Str) : Bool := !(Builtin.Str.occurrences x y 0 x.length 1).isEmpty
def inD (tab : Tab) (t : D → M Bool) (neg : Bool) : D → D → M D := fun x y st => match x, y with
  | .str a, .str b => .ok (.bl (if neg then !subS a b else subS a b)) st
  | x, y => (match clsOf y st with
    | some (c, _) => (match tab.lookup c with
      | some g => (g [y, x] st).bind fun r s => (t r s).bind fun b s2 => .ok (.bl (if neg then !b else b)) s2
      | none => .bad)
    | none => .bad)
theorem cd_in {t : D → M Bool} (tk : Takes G.X G.E) (hr : Room k G.X.A) (ht : TabOk G k "__contains__" 2 tab) (htr : TrD G t) : OpD G (compareOp .In) (inD tab t false) := by
  intro σ W st x y dx dy Q wk rx ry p
  unfold inD at p
  split at p
  · rename_i a b
    cases rx; cases ry
    exact qo_of op_in_str ⟨a, b, rfl, rfl, p _ W (Ext.refl W) wk (.bl _)⟩
  · split at p
    · rename_i c fs hc
      cases hg : tab.lookup c with
      | none => rw [hg] at p; exact p.elim
      | some g =>
        rw [hg] at p
        obtain ⟨f, D1, f1, f2, f3⟩ := ht c g hg
        obtain ⟨a, d1, ws, rfl, ha, _⟩ := clsOf_at wk ry hc
        intro pins s v u I rv ru
        cases ru
        obtain ⟨ox, od, J⟩ := inst_at I ha
        obtain ⟨m, hF⟩ := I.fr
        refine PySem.W.in_K hF I.ok.mod.kin J f1 f2 ?_
        have p' : Post G W σ (g [dy, dx] st) (fun r H => QTr G σ r H fun b H2 => Q (.bl b) H2) := bindEE p fun d s1 r W1 e1 w1 r1 p1 => htr σ W1 s1 r d _ w1 r1 (bindTE p1 fun b s2 W2 e2 w2 p2 => p2 _ W2 (Ext.refl W2) w2 (.bl _))
        refine thn (D1.run tk hr rfl wk (.cons ry (.cons rx .nil)) rfl p' I (.cons rfl (.cons rv .nil))) fun r s1 hz => ?_
        obtain ⟨z, H1, I1, rz, q1⟩ := hz
        refine thn (q1 pins s1 r I1 rz) fun b s2 hb => ?_
        obtain ⟨H2, I2, q2⟩ := hb
        exact ⟨.bl b, H2, I2, rfl, q2⟩
    · exact p.elim
theorem cd_nin {t : D → M Bool} (tk : Takes G.X G.E) (hr : Room k G.X.A) (ht : TabOk G k "__contains__" 2 tab) (htr : TrD G t) : OpD G (compareOp .NotIn) (inD tab t true) := by
  intro σ W st x y dx dy Q wk rx ry p
  unfold inD at p
  split at p
  · rename_i a b
    cases rx; cases ry
    exact qo_of op_notin_str ⟨a, b, rfl, rfl, p _ W (Ext.refl W) wk (.bl _)⟩
  · split at p
    · rename_i c fs hc
      cases hg : tab.lookup c with
      | none => rw [hg] at p; exact p.elim
      | some g =>
        rw [hg] at p
        obtain ⟨f, D1, f1, f2, f3⟩ := ht c g hg
        obtain ⟨a, d1, ws, rfl, ha, _⟩ := clsOf_at wk ry hc
        intro pins s v u I rv ru
        cases ru
        obtain ⟨ox, od, J⟩ := inst_at I ha
        obtain ⟨m, hF⟩ := I.fr
        refine PySem.W.notIn_K hF I.ok.mod.kin J f1 f2 ?_
        have p' : Post G W σ (g [dy, dx] st) (fun r H => QTr G σ r H fun b H2 => Q (.bl (!b)) H2) := bindEE p fun d s1 r W1 e1 w1 r1 p1 => htr σ W1 s1 r d _ w1 r1 (bindTE p1 fun b s2 W2 e2 w2 p2 => p2 _ W2 (Ext.refl W2) w2 (.bl _))
        refine thn (D1.run tk hr rfl wk (.cons ry (.cons rx .nil)) rfl p' I (.cons rfl (.cons rv .nil))) fun r s1 hz => ?_
        obtain ⟨z, H1, I1, rz, q1⟩ := hz
        refine thn (q1 pins s1 r I1 rz) fun b s2 hb => ?_
        obtain ⟨H2, I2, q2⟩ := hb
        exact ⟨.bl (!b), H2, I2, rfl, q2⟩
    · exact p.elim
/-! ### is -/
def isD (neg : Bool) : D → D → M D := fun x y st => match x, y with
  | .bl a, .bl b => .ok (.bl (if neg then !decide (a = b) else decide (a = b))) st
  | .int _, .bl _ => .ok (.bl neg) st
  | .str _, .bl _ => .ok (.bl neg) st
  | .non, .bl _ => .ok (.bl neg) st
  | .non, .non => .ok (.bl (!neg)) st
  | .bl _, .non => .ok (.bl neg) st
  | .int _, .non => .ok (.bl neg) st
  | .str _, .non => .ok (.bl neg) st
  | .lst _, .non => .ok (.bl neg) st
  | .tup _, .non => .ok (.bl neg) st
  | .ins _ _, .non => .ok (.bl neg) st
  | .cell _, .non => .ok (.bl neg) st
  | _, _ => .bad
theorem cd_is : OpD G (compareOp .Is) (isD false) := by
  intro σ W st x y dx dy Q wk rx ry p
  unfold isD at p
  split at p
  · rename_i a b
    cases rx; cases ry
    exact qo_of op_isBl ⟨a, b, rfl, rfl, p _ W (Ext.refl W) wk (.bl _)⟩
  · cases rx; cases ry
    intro pins s v u I rv ru
    obtain ⟨t, rfl⟩ := rv
    cases ru
    exact wpAny_is_other rfl (fun z => by cases z) ⟨.bl false, W.h, I, rfl, p _ W (Ext.refl W) wk (.bl _)⟩
  · cases rx; cases ry
    intro pins s v u I rv ru
    obtain ⟨t, rfl⟩ := rv
    cases ru
    exact wpAny_is_other rfl (fun z => by cases z) ⟨.bl false, W.h, I, rfl, p _ W (Ext.refl W) wk (.bl _)⟩
  · cases rx; cases ry
    intro pins s v u I rv ru
    cases rv
    cases ru
    exact wpAny_is_other rfl (fun z => by cases z) ⟨.bl false, W.h, I, rfl, p _ W (Ext.refl W) wk (.bl _)⟩
  · cases rx; cases ry; exact qo_of op_isN ⟨rfl, p _ W (Ext.refl W) wk (.bl _)⟩
  · cases rx; cases ry; exact qo_of op_isN ⟨rfl, p _ W (Ext.refl W) wk (.bl _)⟩
  · cases rx; cases ry; exact qo_of op_isN ⟨rfl, p _ W (Ext.refl W) wk (.bl _)⟩
  · cases rx; cases ry; exact qo_of op_isN ⟨rfl, p _ W (Ext.refl W) wk (.bl _)⟩
  · cases rx; cases ry; exact qo_of op_isN ⟨rfl, p _ W (Ext.refl W) wk (.bl _)⟩
  · cases rx <;> (cases ry; exact qo_of op_isN ⟨rfl, p _ W (Ext.refl W) wk (.bl _)⟩)
  · cases rx; cases ry; exact qo_of op_isN ⟨rfl, p _ W (Ext.refl W) wk (.bl _)⟩
  · cases rx; cases ry; exact qo_of op_isN ⟨rfl, p _ W (Ext.refl W) wk (.bl _)⟩
  · exact p.elim
theorem cd_isnot : OpD G (compareOp .IsNot) (isD true) := by
  intro σ W st x y dx dy Q wk rx ry p
  unfold isD at p
  split at p
  · rename_i a b
    cases rx; cases ry
    exact qo_of op_notBl ⟨a, b, rfl, rfl, p _ W (Ext.refl W) wk (.bl _)⟩
  · cases rx; cases ry
    intro pins s v u I rv ru
    obtain ⟨t, rfl⟩ := rv
    cases ru
    exact wpAny_isNot_other rfl (fun z => by cases z) ⟨.bl true, W.h, I, rfl, p _ W (Ext.refl W) wk (.bl _)⟩
  · cases rx; cases ry
    intro pins s v u I rv ru
    obtain ⟨t, rfl⟩ := rv
    cases ru
    exact wpAny_isNot_other rfl (fun z => by cases z) ⟨.bl true, W.h, I, rfl, p _ W (Ext.refl W) wk (.bl _)⟩
  · cases rx; cases ry
    intro pins s v u I rv ru
    cases rv
    cases ru
    exact wpAny_isNot_other rfl (fun z => by cases z) ⟨.bl true, W.h, I, rfl, p _ W (Ext.refl W) wk (.bl _)⟩
  · cases rx; cases ry; exact qo_of op_notN ⟨rfl, p _ W (Ext.refl W) wk (.bl _)⟩
  · cases rx; cases ry; exact qo_of op_notN ⟨rfl, p _ W (Ext.refl W) wk (.bl _)⟩
  · cases rx; cases ry; exact qo_of op_notN ⟨rfl, p _ W (Ext.refl W) wk (.bl _)⟩
  · cases rx; cases ry; exact qo_of op_notN ⟨rfl, p _ W (Ext.refl W) wk (.bl _)⟩
  · cases rx; cases ry; exact qo_of op_notN ⟨rfl, p _ W (Ext.refl W) wk (.bl _)⟩
  · cases rx <;> (cases ry; exact qo_of op_notN ⟨rfl, p _ W (Ext.refl W) wk (.bl _)⟩)
  · cases rx; cases ry; exact qo_of op_notN ⟨rfl, p _ W (Ext.refl W) wk (.bl _)⟩
  · cases rx; cases ry; exact qo_of op_notN ⟨rfl, p _ W (Ext.refl W) wk (.bl _)⟩
  · exact p.elim
end
end Mi
/-! MiOps4: truth by __len__, len, abs, int, all, any. -/
namespace PySem.W
open PySem PySem.Spec PySem.Calls PyProof.Rows
section
variable {prog : Program} {w : World} {A : Around} {E : Value → Shared → Prop} {s : Shared} {K : Frag} {x C L f : Addr} {h₀ : Heap} {m : Str → Option Value} {ox : Obj} {od : Option Obj}
/-- the truth of an instance that has a length and no __bool__ -/
theorem mi_truthy_len {Q : Bool → Shared → Prop} (F : Fr h₀ L s.heap m) (X₀ : K.In h₀) (I : InstAt s.heap x ox C od) (hb : findIn K (.ref C) "__bool__" = some none) (hs : findIn K (.ref C) "__len__" = some (some (.ref f))) (hf : isFn K (.ref f) = true)
    (h : wpAny (model prog w) A.in1 (call (.ref f) [.ref x]) (fun v s' => ∃ n t, v = .int n t ∧ 0 ≤ n ∧ n < 2 ^ 63 ∧ Q (n != 0) { s' with toks := s'.toks + 1 }) E s) : wpAny (model prog w) A (truthy (.ref x)) Q E s := by
  have X := X₀.keeps F.keep
  have key : wpAny (model prog w) A (runValue (.builtin "len" ⟨[.ref x], []⟩)) (fun r s' => ∃ n t, r = .int n t ∧ Q (n != 0) s') E s := by
    refine wpAny_runValue (codeAny_builtin entry_len ?_)
    rw [Around.under_plainId plain_len _]
    unfold Builtin.«len»
    refine wpAny_bind (m := oneArg "len" _) (wpAny_pure ?_)
    refine wpAny_bind (m := callSpecial? (.ref x) (Str.ofString "__len__")) (special_fn X I hs (beq_iff_eq.mp hf) (wpAny_mono h (fun r s' hr => ?_) fun _ _ y => y))
    obtain ⟨n, u, rfl, h0, h1, hq⟩ := hr
    refine wpAny_bind (wpAny_holding (wpAny_pure ?_))
    refine wpAny_bind (wpAny_letGo ?_)
    show wpAny _ _ (if n < 0 then _ else _) _ _ _
    rw [if_neg (by omega)]
    show wpAny _ _ (if n ≥ 2 ^ 63 then _ else _) _ _ _
    rw [if_neg (by omega)]
    exact wpAny_bind (wpAny_mkInt (wpAny_pure ⟨n, _, rfl, hq⟩))
  unfold truthy
  refine wpAny_bind (m := callSpecial? (.ref x) (Str.ofString "__bool__")) (wpAny_bind (wpAny_bind (I.type.here ((looks_findIn X hb).here (wpAny_pure ?_)))))
  refine wpAny_bind (wpAny_bind (I.type.here ((looks_findIn X hs).here ?_)))
  refine wpAny_bind (wpAny_mono key (fun r s' hr => ?_) fun _ _ e => e)
  obtain ⟨n, t, rfl, hq⟩ := hr
  exact wpAny_pure hq
end
end PySem.W
namespace Mi
open PySem PySem.Spec PyProof.Rows L2
section
variable {G : Gx} {k : Nat} {tab : Tab}
/-- the length that an own __len__ tells -/
noncomputable def ownLen (tab : Tab) (x : D) : M Int := fun st => match clsOf x st with
  | some (c, _) => (match tab.lookup c with
    | some g => (match g [x] st with
      | .ok (.int n) s => cif (0 ≤ n ∧ n < 2 ^ 63) (.ok n s) .bad
      | _ => .bad)
    | none => .bad)
  | none => .bad
noncomputable def truD (tab : Tab) : D → M Bool := fun x st => match x with
  | .non => .ok false st
  | .bl b => .ok b st
  | .int i => .ok (i != 0) st
  | .str y => if y.length ≤ LIM then .ok ((y.length : Int) != 0) st else .bad
  | .tup xs => .ok (!xs.isEmpty) st
  | x => (match seqOf x st with
    | some xs => .ok (!xs.isEmpty) st
    | none => (ownLen tab x st).bind fun n s => .ok (n != 0) s)
theorem isEmpty_reps {K : PySem.W.Frag} {ca : Nat → Addr} {W : Wd} {xs : List V} {ds : List D} (r : Reps K ca W xs ds) : xs.isEmpty = ds.isEmpty := by
  cases r <;> rfl
/-- the own __len__ run, one step deeper -/
theorem ownLen_run {σ : L2.St} {W : Wd} {st : Sto} {x : V} {d : D} {n : Int} {s1 : Sto} {name : Str} (tk : Takes G.X G.E) (hr : Room (k + 1) G.X.A) (ht : TabOk G k name 1 tab) (wk : WOk G.X.K G.ca W st) (rx : Rep G.X.K G.ca W x d) (h : ownLen tab d st = .ok n s1) :
    ∃ (c : Nat) (a dx : Addr) (ws : List (Str × V)) (f : Addr), x = .ref a ∧ W.h a = some (.ins (G.ca c) dx ws) ∧ PySem.W.findIn G.X.K (.ref (G.ca c)) name = some (some (.ref f)) ∧ PySem.W.isFn G.X.K (.ref f) = true ∧ (tab.lookup c).isSome = true ∧ (0 ≤ n ∧ n < 2 ^ 63) ∧
      ∀ (pins : List (Addr × Obj)) (s : Shared), Inv G.X pins σ W.h s → wpAny (model G.X.prog G.X.w) G.X.A.in1 (call (.ref f) [.ref a]) (EP G.X pins σ fun v H => v = .int n ∧ ∃ W', Ext W W' ∧ WOk G.X.K G.ca W' s1 ∧ H = W'.h) G.X.xe s := by
  unfold ownLen at h
  cases h1 : clsOf d st with
  | none => rw [h1] at h; cases h
  | some cf =>
    obtain ⟨c, fs⟩ := cf
    rw [h1] at h
    dsimp only at h
    cases hg : tab.lookup c with
    | none => rw [hg] at h; cases h
    | some g =>
      rw [hg] at h
      dsimp only at h
      obtain ⟨f, D1, f1, f2, f3⟩ := ht c g hg
      obtain ⟨a, d1, ws, rfl, ha, _⟩ := clsOf_at wk rx h1
      cases hm : g [d] st with
      | bad => rw [hm] at h; cases h
      | exc _ _ _ => rw [hm] at h; cases h
      | ok z s2 =>
        rw [hm] at h
        cases z with
        | int m =>
          dsimp only at h
          by_cases hb : 0 ≤ m ∧ m < 2 ^ 63
          · rw [cif_pos hb] at h
            cases h
            refine ⟨c, a, d1, ws, f, rfl, ha, f1, f2, by rw [hg]; rfl, hb, fun pins s I => ?_⟩
            refine D1.run tk hr.in1 (in1_frames _) wk (.cons rx .nil) rfl ?_ I (.cons rfl .nil)
            rw [hm]
            intro v W' e w' r'
            cases r'
            exact ⟨rfl, W', e, w', rfl⟩
          · rw [cif_neg hb] at h; cases h
        | _ => cases h
theorem td_tru (tk : Takes G.X G.E) (hr : Room (k + 1) G.X.A) (ht : TabOk G k "__len__" 1 tab) (hnb : ∀ c, (tab.lookup c).isSome = true → PySem.W.findIn G.X.K (.ref (G.ca c)) "__bool__" = some none) : TrD G (truD tab) := by
  intro σ W st x dx Q wk rx p
  unfold truD at p
  split at p
  · cases rx; exact qtr_of tru_ok ⟨false, rfl, p W (Ext.refl W) wk⟩
  · rename_i b; cases rx; exact qtr_of tru_ok ⟨b, rfl, p W (Ext.refl W) wk⟩
  · rename_i i; cases rx; exact qtr_of tru_ok ⟨_, rfl, p W (Ext.refl W) wk⟩
  · rename_i y
    cases rx
    by_cases hl : y.length ≤ LIM
    · rw [if_pos hl] at p; exact qtr_of tru_ok ⟨_, ⟨lim_le hl, rfl⟩, p W (Ext.refl W) wk⟩
    · rw [if_neg hl] at p; exact p.elim
  · rename_i xs
    obtain ⟨q, ys, rfl, s1, r1⟩ := rx.sqT
    exact qtr_of tru_ok ⟨_, .inr (.inl ⟨ys, s1, rfl⟩), by rw [isEmpty_reps r1]; exact p W (Ext.refl W) wk⟩
  · split at p
    · rename_i xs hs
      obtain ⟨q, ys, rfl, s1, r1⟩ := seqOf_at wk rx hs
      exact qtr_of tru_ok ⟨_, .inl ⟨ys, s1, rfl⟩, by rw [isEmpty_reps r1]; exact p W (Ext.refl W) wk⟩
    · cases hl : ownLen tab dx st with
      | bad => rw [hl] at p; exact p.elim
      | exc _ _ _ =>
        exfalso
        unfold ownLen cif at hl
        split at hl
        · split at hl
          · split at hl
            · split at hl <;> cases hl
            · cases hl
          · cases hl
        · cases hl
      | ok n s1 =>
        rw [hl] at p
        obtain ⟨c, a, d1, ws, f, rfl, ha, f1, f2, f3, hb, run⟩ := ownLen_run (σ := σ) tk hr ht wk rx hl
        intro pins s v I rv
        cases rv
        obtain ⟨ox, od, J⟩ := inst_at I ha
        obtain ⟨m, hF⟩ := I.fr
        refine PySem.W.mi_truthy_len hF I.ok.mod.kin J (hnb c f3) f1 f2 (thn (run pins s I) fun v s' hz => ?_)
        obtain ⟨z, H', I', rz, rfl, W', e', w', rfl⟩ := hz
        obtain ⟨t, rfl⟩ := rz
        exact ⟨n, t, rfl, hb.1, hb.2, W'.h, I'.tok _, p W' e' w'⟩
/-! ### len -/
noncomputable def lenD (tab : Tab) : List D → M D := fun ds st => match ds with
  | [.str y] => if y.length ≤ LIM then .ok (.int y.length) st else .bad
  | [.tup xs] => .ok (.int xs.length) st
  | [x] => (match seqOf x st with
    | some xs => .ok (.int xs.length) st
    | none => (ownLen tab x st).bind fun n s => .ok (.int n) s)
  | _ => .bad
theorem kd_len (tk : Takes G.X G.E) (hr : Room (k + 1) G.X.A) (ht : TabOk G k "__len__" 1 tab) : CallD G (.builtin "len") (lenD tab) := by
  intro σ W st vs ds Q wk r p
  unfold lenD at p
  split at p
  · rename_i y
    cases r with
    | cons r1 rr =>
      cases rr
      cases r1
      by_cases hl : y.length ≤ LIM
      · rw [if_pos hl] at p
        exact qc_of call_len_str ⟨y, rfl, lim_le hl, p _ W (Ext.refl W) wk (.int _)⟩
      · rw [if_neg hl] at p; exact p.elim
  · rename_i xs
    cases r with
    | cons r1 rr =>
      cases rr
      obtain ⟨q, ys, rfl, s1, r1⟩ := r1.sqT
      refine qc_of call_len_seq ⟨q, ys, rfl, .inr s1, ?_⟩
      rw [r1.length]
      exact p _ W (Ext.refl W) wk (.int _)
  · rename_i x _ _
    cases r with
    | cons r1 rr =>
      cases rr
      split at p
      · rename_i xs hs
        obtain ⟨q, ys, rfl, s1, r1⟩ := seqOf_at wk r1 hs
        refine qc_of call_len_seq ⟨q, ys, rfl, .inl s1, ?_⟩
        rw [r1.length]
        exact p _ W (Ext.refl W) wk (.int _)
      · cases hl : ownLen tab x st with
        | bad => rw [hl] at p; exact p.elim
        | exc _ _ _ =>
          exfalso
          unfold ownLen cif at hl
          split at hl
          · split at hl
            · split at hl
              · split at hl <;> cases hl
              · cases hl
            · cases hl
          · cases hl
        | ok n s1 =>
          rw [hl] at p
          obtain ⟨c, a, d1, ws, f, rfl, ha, f1, f2, f3, hb, run⟩ := ownLen_run (σ := σ) tk hr ht wk r1 hl
          intro pins s us I rv
          cases rv with
          | cons rv1 rvr =>
            cases rvr
            cases rv1
            obtain ⟨ox, od, J⟩ := inst_at I ha
            obtain ⟨m, hF⟩ := I.fr
            refine PySem.W.len_K hF I.ok.mod.kin J f1 f2 (thn (run pins s I) fun v s' hz => ?_)
            obtain ⟨z, H', I', rz, rfl, W', e', w', rfl⟩ := hz
            obtain ⟨t, rfl⟩ := rz
            exact ⟨hb, .int n, W'.h, I'.tok _, ⟨_, rfl⟩, p _ W' e' w' (.int _)⟩
  · exact p.elim
/-! ### abs, int, all, any -/
def absD : List D → M D := fun ds st => match ds with
  | [.int i] => .ok (.int (if i < 0 then -i else i)) st
  | _ => .bad
theorem kd_abs : CallD G (.builtin "abs") absD := by
  intro σ W st vs ds Q wk r p
  unfold absD at p
  split at p
  · rename_i i
    cases r with
    | cons r1 rr =>
      cases rr
      cases r1
      exact qc_of call_abs ⟨i, rfl, p _ W (Ext.refl W) wk (.int _)⟩
  · exact p.elim
def intD : List D → M D := fun ds st => match ds with
  | [.int i] => .ok (.int i) st
  | [.bl b] => .ok (.int (if b then 1 else 0)) st
  | [.str a] => (match PySem.intText? a with
    | some n => if a.length ≤ 640 then .ok (.int n) st else .bad
    | none => .bad)
  | _ => .bad
theorem kd_int : CallD G (.type "int") intD := by
  intro σ W st vs ds Q wk r p
  unfold intD at p
  split at p
  · rename_i i
    cases r with
    | cons r1 rr =>
      cases rr
      cases r1
      exact qc_of call_int1 (.inl ⟨i, rfl, p _ W (Ext.refl W) wk (.int _)⟩)
  · rename_i b
    cases r with
    | cons r1 rr =>
      cases rr
      cases r1
      exact qc_of call_int1 (.inr ⟨b, rfl, p _ W (Ext.refl W) wk (.int _)⟩)
  · rename_i a
    cases r with
    | cons r1 rr =>
      cases rr
      cases r1
      cases hi : PySem.intText? a with
      | none => rw [hi] at p; exact p.elim
      | some n =>
        rw [hi] at p
        dsimp only at p
        by_cases hl : a.length ≤ 640
        · rw [if_pos hl] at p
          exact qc_of call_int_str ⟨a, n, rfl, hi, hl, p _ W (Ext.refl W) wk (.int _)⟩
        · rw [if_neg hl] at p; exact p.elim
  · exact p.elim
/-- a list of truth values -/
def blsOf : List D → Option (List Bool)
  | [] => some []
  | .bl b :: ds => (blsOf ds).map fun r => b :: r
  | _ :: _ => none
theorem bls_rep {K : PySem.W.Frag} {ca : Nat → Addr} {W : Wd} : ∀ {vs : List V} {ds : List D} {bs : List Bool}, Reps K ca W vs ds → blsOf ds = some bs → vs = bs.map V.bl
  | _, _, _, .nil, h => by cases h; rfl
  | _, _, _, .cons (d := d) (ds := ds) r t, h => by
    cases d with
    | bl b =>
      unfold blsOf at h
      cases e : blsOf ds with
      | none => rw [e] at h; cases h
      | some q =>
        rw [e] at h
        cases h
        cases r
        rw [bls_rep t e]
        rfl
    | _ => cases h
def allD (all : Bool) : List D → M D := fun ds st => match ds with
  | [x] => (match seqOf x st with
    | some xs => (match blsOf xs with
      | some bs => .ok (.bl (if all then bs.all id else bs.any id)) st
      | none => .bad)
    | none => .bad)
  | _ => .bad
theorem kd_all (hc : G.X.calm = true) : CallD G (.builtin "all") (allD true) := by
  intro σ W st vs ds Q wk r p
  unfold allD at p
  split at p
  · rename_i x
    cases r with
    | cons r1 rr =>
      cases rr
      cases hs : seqOf x st with
      | none => rw [hs] at p; exact p.elim
      | some xs =>
        rw [hs] at p
        dsimp only at p
        cases hb : blsOf xs with
        | none => rw [hb] at p; exact p.elim
        | some bs =>
          rw [hb] at p
          obtain ⟨q, ys, rfl, s1, r1⟩ := seqOf_at wk r1 hs
          have e := bls_rep r1 hb
          subst e
          exact qc_of (cr_all hc) ⟨q, bs, rfl, s1, p _ W (Ext.refl W) wk (.bl _)⟩
  · exact p.elim
theorem kd_any (hc : G.X.calm = true) : CallD G (.builtin "any") (allD false) := by
  intro σ W st vs ds Q wk r p
  unfold allD at p
  split at p
  · rename_i x
    cases r with
    | cons r1 rr =>
      cases rr
      cases hs : seqOf x st with
      | none => rw [hs] at p; exact p.elim
      | some xs =>
        rw [hs] at p
        dsimp only at p
        cases hb : blsOf xs with
        | none => rw [hb] at p; exact p.elim
        | some bs =>
          rw [hb] at p
          obtain ⟨q, ys, rfl, s1, r1⟩ := seqOf_at wk r1 hs
          have e := bls_rep r1 hb
          subst e
          exact qc_of (cr_any hc) ⟨q, bs, rfl, s1, p _ W (Ext.refl W) wk (.bl _)⟩
  · exact p.elim
end
end Mi
/-! MiOps5: subscripts, slices, methods of built-in types, walks, class attributes. -/
namespace Mi
open PySem PySem.Spec PyProof.Rows L2
section
variable {G : Gx} {k : Nat} {tab : Tab} {a b e o : Expr} {es : List Expr} {ma mb : EM} {aa : AM} {p pos apos cpos : Pos}
/-! ### a[i] -/
def IxD (G : Gx) (f : D → D → M D) : Prop := ∀ σ W st x y dx dy Q, WOk G.X.K G.ca W st → Rep G.X.K G.ca W x dx → Rep G.X.K G.ca W y dy → Post G W σ (f dx dy st) Q → ∃ r, IxR G.X r ∧ r x y W.h Q
theorem ixr_any {X : Cx} : IxR X (fun x y H Q => ∃ r, IxR X r ∧ r x y H Q) := fun value slice pins s σ H x y v u Q I rx ry ⟨r, hr, q⟩ hs => hr value slice pins s σ H x y v u Q I rx ry q hs
theorem re_ix {f : D → D → M D} (hf : IxD G f) (ha : RE G a ma) (hb : RE G b mb) (hs : PlainIx b := by intro _ _; rfl) : RE G (.Subscript a b pos) (eOp f ma mb) := by
  intro σ W env st Q w re hp
  refine qe_of (pe_ix ixr_any pe_q pe_q hs) ?_
  exact two (R := fun x y H => ∃ r, IxR G.X r ∧ r x y H Q) ha hb w re hp fun x y dx dy W2 s2 w2 r1 r2 p2 => hf σ W2 s2 x y dx dy Q w2 r1 r2 p2
def ixD : D → D → M D := fun x y st => match x, y with
  | .str z, .int i => if z.length ≤ LIM then (match atI z.cps.toList i with
    | some c => .ok (.str ⟨#[c]⟩) st
    | none => .bad) else .bad
  | .tup xs, .int i => (match atI xs i with
    | some d => .ok d st
    | none => .bad)
  | x, .int i => (match seqOf x st with
    | some xs => (match atI xs i with
      | some d => .ok d st
      | none => .bad)
    | none => .bad)
  | _, _ => .bad
theorem atI_reps {K : PySem.W.Frag} {ca : Nat → Addr} {W : Wd} {xs : List V} {ds : List D} {i : Int} {d : D} (r : Reps K ca W xs ds) (h : atI ds i = some d) : ∃ v, atI xs i = some v ∧ Rep K ca W v d := by
  unfold atI at h ⊢
  rw [r.length]
  cases e : ixN ds.length i with
  | none => rw [e] at h; cases h
  | some j =>
    rw [e] at h
    exact r.get h
theorem xd_ix : IxD G ixD := by
  intro σ W st x y dx dy Q wk rx ry p
  unfold ixD at p
  split at p
  · rename_i z i
    cases rx; cases ry
    by_cases hl : z.length ≤ LIM
    · rw [if_pos hl] at p
      cases hc : atI z.cps.toList i with
      | none => rw [hc] at p; exact p.elim
      | some c => rw [hc] at p; exact ⟨_, ix_str, z, i, c, rfl, rfl, lim_le hl, hc, p _ W (Ext.refl W) wk (.str _)⟩
    · rw [if_neg hl] at p; exact p.elim
  · rename_i xs i
    cases ry
    obtain ⟨q, ys, rfl, s1, r1⟩ := rx.sqT
    cases hc : atI xs i with
    | none => rw [hc] at p; exact p.elim
    | some d =>
      rw [hc] at p
      obtain ⟨v, h1, h2⟩ := atI_reps r1 hc
      exact ⟨_, ix_tup, q, ys, i, v, rfl, rfl, s1, h1, p v W (Ext.refl W) wk h2⟩
  · rename_i i _ _
    cases ry
    cases hs : seqOf dx st with
    | none => rw [hs] at p; exact p.elim
    | some xs =>
      rw [hs] at p
      dsimp only at p
      cases hc : atI xs i with
      | none => rw [hc] at p; exact p.elim
      | some d =>
        rw [hc] at p
        obtain ⟨q, ys, rfl, s1, r1⟩ := seqOf_at wk rx hs
        obtain ⟨v, h1, h2⟩ := atI_reps r1 hc
        exact ⟨_, ix_list, q, ys, i, v, rfl, rfl, s1, h1, p v W (Ext.refl W) wk h2⟩
  · exact p.elim
/-! ### a[lo:hi] -/
abbrev PM := En → M (Option Int)
def pNone : PM := fun _ st => .ok none st
def pSome (a : EM) : PM := fun env st => (a env st).bind fun x s => match x with
  | .int i => .ok (some i) s
  | _ => .bad
def PostP (G : Gx) (W : Wd) (σ : L2.St) (r : Res (Option Int)) (Q : Option Int → Hp → Prop) : Prop := match r with
  | .ok o st => ∀ W', Ext W W' → WOk G.X.K G.ca W' st → Q o W'.h
  | .exc c fs st => ∀ dd W', Ext W W' → WOk G.X.K G.ca W' st → RepX G.X.K G.ca W' fs dd → G.E (.ref (G.ca c)) dd σ W'.h
  | .bad => False
def QP (G : Gx) (e : Option Expr) : TO := fun σ H Q => ∃ t, PO G.X e t ∧ t σ H Q
theorem po_q {e : Option Expr} : PO G.X e (QP G e) := ⟨fun pins s σ H Q I ⟨_, ht, q⟩ => ht.run pins s σ H Q I q⟩
def RP (G : Gx) (e : Option Expr) (m : PM) : Prop := ∀ σ W env st Q, WOk G.X.K G.ca W st → RepE G.X.K G.ca G.xc W σ env → PostP G W σ (m env st) Q → QP G e σ W.h Q
theorem rp_none : RP G none pNone := fun σ W env st Q w re p => ⟨_, po_none, p W (Ext.refl W) w⟩
theorem rp_some (ha : RE G a ma) : RP G (some a) (pSome ma) := by
  intro σ W env st Q w re p
  refine ⟨_, po_some pe_q, ?_⟩
  refine ha σ W env st _ w re ?_
  unfold pSome at p
  cases hm : ma env st with
  | bad => rw [hm] at p; exact p
  | exc c fs s1 => rw [hm] at p; exact p
  | ok d s1 =>
    rw [hm] at p
    intro v W' e1 w1 r1
    cases r1 with
    | int i => exact ⟨i, rfl, p W' e1 w1⟩
    | _ => exact p.elim
def SlD (G : Gx) (f : D → Option Int → Option Int → M D) : Prop := ∀ σ W st x dx lo hi Q, WOk G.X.K G.ca W st → Rep G.X.K G.ca W x dx → Post G W σ (f dx lo hi st) Q → ∃ r, L2.SlR G.X r ∧ r x lo hi W.h Q
theorem slr_any {X : Cx} : L2.SlR X (fun x lo hi H Q => ∃ r, L2.SlR X r ∧ r x lo hi H Q) := fun pins s σ H x v vl vu lo hi sl Q I rx hs pl pu ⟨r, hr, q⟩ => hr pins s σ H x v vl vu lo hi sl Q I rx hs pl pu q
def eSl (f : D → Option Int → Option Int → M D) (a : EM) (lo hi : PM) : EM := fun env st => (a env st).bind fun x s => (lo env s).bind fun l s2 => (hi env s2).bind fun h s3 => f x l h s3
theorem bindPE {W : Wd} {σ : L2.St} {r : Res (Option Int)} {f : Option Int → M D} {Q : VK} {Q1 : Option Int → Hp → Prop} (h : Post G W σ (r.bind f) Q) (kk : ∀ (d : Option Int) (s1 : Sto) (W2 : Wd), Ext W W2 → WOk G.X.K G.ca W2 s1 → Post G W2 σ (f d s1) Q → Q1 d W2.h) : PostP G W σ r Q1 := by
  cases r with
  | ok d s1 => exact fun W2 e w => kk d s1 W2 e w (Post.mono e h)
  | exc c fs s1 => exact h
  | bad => exact h
theorem re_slice {f : D → Option Int → Option Int → M D} {lo hi : Option Expr} {ml mh : PM} {p2 : Pos} (hf : SlD G f) (ha : RE G a ma) (hl : RP G lo ml) (hh : RP G hi mh) : RE G (.Subscript a (.Slice lo hi none p2) pos) (eSl f ma ml mh) := by
  intro σ W env st Q w re hp
  refine qe_of (pe_slice slr_any pe_q po_q po_q) ?_
  refine ha σ W env st _ w re (bindEE hp fun dx s1 x W1 e1 w1 r1 p1 => ?_)
  refine hl σ W1 env s1 _ w1 (re.mono e1) (bindPE p1 fun l s2 W2 e2 w2 p2 => ?_)
  refine hh σ W2 env s2 _ w2 ((re.mono e1).mono e2) (bindPE p2 fun h s3 W3 e3 w3 p3 => ?_)
  exact hf σ W3 s3 x dx l h Q w3 ((r1.mono e2).mono e3) p3
def cutD (xs : List D) (lo hi : Option Int) : List D := (xs.drop (HT.sIx xs.length 0 lo)).take (HT.sIx xs.length xs.length hi - HT.sIx xs.length 0 lo)
theorem cut_reps {K : PySem.W.Frag} {ca : Nat → Addr} {W : Wd} {xs : List V} {ds : List D} (r : Reps K ca W xs ds) (lo hi : Option Int) : Reps K ca W (cutV xs lo hi) (cutD ds lo hi) := by
  unfold cutV cutD
  rw [r.length]
  exact (r.drop _).take _
def slD : D → Option Int → Option Int → M D := fun x lo hi st => match x with
  | .str z => if z.length ≤ LIM then .ok (.str (cutS z lo hi)) st else .bad
  | x => (match seqOf x st with
    | some xs => .ok (.lst (cutD xs lo hi)) st
    | none => .bad)
theorem sd_sl : SlD G slD := by
  intro σ W st x dx lo hi Q wk rx p
  unfold slD at p
  split at p
  · rename_i z
    cases rx
    by_cases hl : z.length ≤ LIM
    · rw [if_pos hl] at p; exact ⟨_, sl_str, z, rfl, lim_le hl, p _ W (Ext.refl W) wk (.str _)⟩
    · rw [if_neg hl] at p; exact p.elim
  · cases hs : seqOf dx st with
    | none => rw [hs] at p; exact p.elim
    | some xs =>
      rw [hs] at p
      obtain ⟨q, ys, rfl, s1, r1⟩ := seqOf_at wk rx hs
      refine ⟨_, sl_list, q, ys, rfl, s1, fun n hn => ?_⟩
      have x1 := W.lay_ext (o := .lst (cutV ys lo hi)) hn
      exact p (.ref n) _ x1 (wk.lay hn) (.lst (W.lay_nav hn) upd_same ((cut_reps r1 lo hi).mono x1))
/-! ### methods of built-in types -/
def tyD (T : String) (d : D) (st : Sto) : Bool := match d with
  | .str _ => T == "str"
  | .int _ => T == "int"
  | d => T == "list" && (seqOf d st).isSome
theorem tyD_at {K : PySem.W.Frag} {ca : Nat → Addr} {W : Wd} {st : Sto} {T : String} {x : V} {d : D} (wk : WOk K ca W st) (r : Rep K ca W x d) (h : tyD T d st = true) : tyV K T x W.h := by
  unfold tyD at h
  split at h
  · cases r; exact beq_iff_eq.mp h
  · cases r; exact beq_iff_eq.mp h
  · obtain ⟨h1, h2⟩ := Bool.and_eq_true_iff.mp h
    obtain ⟨xs, hs⟩ := Option.isSome_iff_exists.mp h2
    obtain ⟨q, ys, rfl, s1, _⟩ := seqOf_at wk r hs
    exact .inl ⟨beq_iff_eq.mp h1, ys, s1⟩
def MtD (G : Gx) (id : String) (f : D → List D → M D) : Prop := ∀ σ W st x vs dx ds Q, WOk G.X.K G.ca W st → Rep G.X.K G.ca W x dx → Reps G.X.K G.ca W vs ds → Post G W σ (f dx ds st) Q → ∃ r, MtR G.X id r ∧ r x vs W.h Q
theorem mtr_any {X : Cx} {id : String} : MtR X id (fun x vs H Q => ∃ r, MtR X id r ∧ r x vs H Q) := fun pins s σ H x xs v us Q I rx rv ⟨r, hr, q⟩ => hr pins s σ H x xs v us Q I rx rv q
def eBm (T : String) (f : D → List D → M D) (o : EM) (a : AM) : EM := fun env st => (o env st).bind fun x s => if tyD T x s = true then (a env s).bind fun ds s2 => f x ds s2 else .bad
theorem re_bm {T id : String} {name : Str} {f : D → List D → M D} (pa : PlainAttrs T) (slot : PySem.Slot T name id) (hty : typeOf (.builtin id) = pure (.type "method_descriptor")) (hf : MtD G id f) (ho : RE G o ma) (ha : RA G (e :: es) aa)
    (hbase : attributeBase o name G.X.env (eval o G.X.env) = eval o G.X.env := by first | exact abase_ns rfl | rfl)
    (hfew : ((backTo cpos (starEach (e :: es) G.X.env)).all (fun x => !x.1) && (backToKw cpos (keywordEach [] G.X.env)).all (fun x => x.1.isSome) && decide ((e :: es).length + ([] : List Keyword).length + (if ([] : List Keyword).isEmpty then 0 else 1) < 30)) = true := by exact few_ns rfl rfl)
    (hline : (apos.endLine == cpos.line) = true := by rfl) (hs : starEach (e :: es) G.X.env = (false, eval e G.X.env) :: starEach es G.X.env := by exact starEach_ns rfl) (hplain : (backTo cpos (starEach es G.X.env)).any (·.1) = false := by exact plain_ns rfl) :
    RE G (.Call (.Attribute o name apos) (e :: es) [] cpos) (eBm T f ma aa) := by
  intro σ W env st Q w re hp
  refine qe_of (pe_bm pa slot hty mtr_any pe_q pa_q hbase hfew hline hs hplain) ?_
  refine ho σ W env st _ w re (bindEE hp fun dx s1 x W1 e1 w1 r1 p1 => ?_)
  by_cases ht : tyD T dx s1 = true
  · rw [if_pos ht] at p1
    refine ⟨tyD_at w1 r1 ht, ?_⟩
    exact ha σ W1 env s1 _ w1 (re.mono e1) (bindAE p1 fun ds s2 vs W2 e2 w2 r2 p2 => hf σ W2 s2 x vs dx ds Q w2 (r1.mono e2) r2 p2)
  · rw [if_neg ht] at p1; exact p1.elim
theorem re_bm0 {T id : String} {name : Str} {f : D → List D → M D} (pa : PlainAttrs T) (slot : PySem.Slot T name id) (hty : typeOf (.builtin id) = pure (.type "method_descriptor")) (hf : MtD G id f) (ho : RE G o ma)
    (hbase : attributeBase o name G.X.env (eval o G.X.env) = eval o G.X.env := by first | exact abase_ns rfl | rfl) (hline : (apos.endLine == cpos.line) = true := by rfl) : RE G (.Call (.Attribute o name apos) [] [] cpos) (eBm T f ma aNil) := by
  intro σ W env st Q w re hp
  refine qe_of (pe_bm0 pa slot hty mtr_any pe_q hbase hline) ?_
  refine ho σ W env st _ w re (bindEE hp fun dx s1 x W1 e1 w1 r1 p1 => ?_)
  by_cases ht : tyD T dx s1 = true
  · rw [if_pos ht] at p1
    exact ⟨tyD_at w1 r1 ht, hf σ W1 s1 x [] dx [] Q w1 r1 .nil p1⟩
  · rw [if_neg ht] at p1; exact p1.elim
/-- texts of a list -/
def strsOf : List D → Option (List Str)
  | [] => some []
  | .str b :: ds => (strsOf ds).map fun r => b :: r
  | _ :: _ => none
theorem strs_rep {K : PySem.W.Frag} {ca : Nat → Addr} {W : Wd} : ∀ {vs : List V} {ds : List D} {bs : List Str}, Reps K ca W vs ds → strsOf ds = some bs → vs = bs.map V.str
  | _, _, _, .nil, h => by cases h; rfl
  | _, _, _, .cons (d := d) (ds := ds) r t, h => by
    cases d with
    | str b =>
      unfold strsOf at h
      cases e : strsOf ds with
      | none => rw [e] at h; cases h
      | some q =>
        rw [e] at h
        cases h
        cases r
        rw [strs_rep t e]
        rfl
    | _ => cases h
def joinD : D → List D → M D := fun x ds st => match x, ds with
  | .str sep, [y] => (match seqOf y st with
    | some xs => (match strsOf xs with
      | some ys => if (ys.map (·.length)).sum + ys.length * sep.length ≤ 16777216 then .ok (.str (Txt.join sep ys)) st else .bad
      | none => .bad)
    | none => .bad)
  | _, _ => .bad
theorem md_join : MtD G "str.join" joinD := by
  intro σ W st x vs dx ds Q wk rx rv p
  unfold joinD at p
  split at p
  · rename_i sep y
    cases rx
    cases rv with
    | cons r1 rr =>
      cases rr
      cases hs : seqOf y st with
      | none => rw [hs] at p; exact p.elim
      | some xs =>
        rw [hs] at p
        dsimp only at p
        cases hb : strsOf xs with
        | none => rw [hb] at p; exact p.elim
        | some ys =>
          rw [hb] at p
          dsimp only at p
          by_cases hl : (ys.map (·.length)).sum + ys.length * sep.length ≤ 16777216
          · rw [if_pos hl] at p
            obtain ⟨q, zs, rfl, s1, r1⟩ := seqOf_at wk r1 hs
            have e := strs_rep r1 hb
            subst e
            exact ⟨_, mt_join, sep, q, ys, rfl, rfl, .inl s1, hl, p _ W (Ext.refl W) wk (.str _)⟩
          · rw [if_neg hl] at p; exact p.elim
  · exact p.elim
/-- append, pop on a cell's list -/
def appD : D → List D → M D := fun x ds st => match x, ds with
  | .cell n, [y] => (match st[n]? with
    | some (.lst xs) => if xs.length < LIM then .ok .non (st.set n (.lst (xs ++ [y]))) else .bad
    | _ => .bad)
  | _, _ => .bad
theorem md_app : MtD G "list.append" appD := by
  intro σ W st x vs dx ds Q wk rx rv p
  unfold appD at p
  split at p
  · rename_i n y
    cases rx with
    | cell hg =>
      rename_i q
      cases rv with
      | cons r1 rr =>
        cases rr
        cases hs : st[n]? with
        | none => rw [hs] at p; exact p.elim
        | some c =>
          rw [hs] at p
          cases c with
          | lst xs =>
            dsimp only at p
            by_cases hl : xs.length < LIM
            · rw [if_pos hl] at p
              obtain ⟨ys, h1, h2⟩ := wk.cell n q _ hg hs
              rename_i v
              have hne : W.h q ≠ none := by rw [h1]; exact fun z => by cases z
              have kk := W.wr_kp (o := .lst (ys ++ [v])) hne (W.gav q (List.mem_of_getElem? hg))
              obtain ⟨e1, w1⟩ := cell_wr (o := .lst (ys ++ [v])) (c := .lst (xs ++ [y])) wk hg hne ⟨_, upd_same, (h2.kp kk).append (.cons (r1.kp kk) .nil)⟩
              exact ⟨_, mt_append, q, ys, v, rfl, rfl, h1, lim_lt (by rw [h2.length]; exact hl), p .non _ e1 w1 .non⟩
            · rw [if_neg hl] at p; exact p.elim
          | ins _ _ => exact p.elim
          | dk _ => exact p.elim
          | tab _ _ => exact p.elim
  · exact p.elim
def popD : D → List D → M D := fun x ds st => match x, ds with
  | .cell n, [.int i] => (match st[n]? with
    | some (.lst xs) => if xs.length ≤ LIM then (match ixN xs.length i with
      | some j => (match xs[j]? with
        | some d => .ok d (st.set n (.lst (xs.eraseIdx j)))
        | none => .bad)
      | none => .bad) else .bad
    | _ => .bad)
  | _, _ => .bad
theorem Reps.eraseIdx {K : PySem.W.Frag} {ca : Nat → Addr} {W : Wd} : ∀ {vs : List V} {ds : List D} (i : Nat), Reps K ca W vs ds → Reps K ca W (vs.eraseIdx i) (ds.eraseIdx i)
  | _, _, _, .nil => .nil
  | _, _, 0, .cons _ t => t
  | _, _, i + 1, .cons q t => .cons q (Reps.eraseIdx i t)
theorem md_pop : MtD G "list.pop" popD := by
  intro σ W st x vs dx ds Q wk rx rv p
  unfold popD at p
  split at p
  · rename_i n i
    cases rx with
    | cell hg =>
      rename_i q
      cases rv with
      | cons r1 rr =>
        cases rr
        cases r1
        cases hs : st[n]? with
        | none => rw [hs] at p; exact p.elim
        | some c =>
          rw [hs] at p
          cases c with
          | lst xs =>
            dsimp only at p
            by_cases hlim : xs.length ≤ LIM
            case neg => rw [if_neg hlim] at p; exact p.elim
            rw [if_pos hlim] at p
            cases hj : ixN xs.length i with
            | none => rw [hj] at p; exact p.elim
            | some j =>
              rw [hj] at p
              dsimp only at p
              cases hd : xs[j]? with
              | none => rw [hd] at p; exact p.elim
              | some d =>
                rw [hd] at p
                obtain ⟨ys, h1, h2⟩ := wk.cell n q _ hg hs
                obtain ⟨v, h3, h4⟩ := h2.get hd
                have hne : W.h q ≠ none := by rw [h1]; exact fun z => by cases z
                have kk := W.wr_kp (o := .lst (ys.eraseIdx j)) hne (W.gav q (List.mem_of_getElem? hg))
                obtain ⟨e1, w1⟩ := cell_wr (o := .lst (ys.eraseIdx j)) (c := .lst (xs.eraseIdx j)) wk hg hne ⟨_, upd_same, (h2.kp kk).eraseIdx j⟩
                obtain ⟨g1, g2, g3, g4⟩ := ixN_seq hj
                have hlen : ys.length = xs.length := h2.length
                have hz : xs.length ≤ 16777216 := hlim
                refine ⟨_, mt_popAt, q, ys, i, j, v, rfl, rfl, h1, ?_, ?_, by rw [hlen]; exact g1, h3, p v _ e1 w1 (h4.mono e1)⟩
                · omega
                · omega
          | ins _ _ => exact p.elim
          | dk _ => exact p.elim
          | tab _ _ => exact p.elim
  · exact p.elim
end
end Mi
/-! MiOps6: walks over values and ranges, class attributes, classmethods, classes held by a name. -/
namespace Mi
open PySem PySem.Spec PyProof.Rows L2 ClX
section
variable {G : Gx} {k : Nat} {tab : Tab} {tg a b e o : Expr} {es : List Expr} {ma mb : EM} {aa : AM} {p pos apos cpos : Pos}
/-! ### what is walked: lists, tuples, texts -/
theorem jok_list {K : PySem.W.Frag} {ca : Nat → Addr} {W : Wd} {q : Addr} {xs : List V} {ds : List D} (h : ∀ W', Kp W W' → SqL K W'.h q xs) (r : Reps K ca W xs ds) : JOk K ca W (Itl K q) ds := by
  intro W' st kp wk
  refine ⟨fun i d hd => ?_, xs, h W' kp, by rw [r.length]; exact Nat.le_refl _⟩
  obtain ⟨v, h1, h2⟩ := r.get hd
  refine ⟨⟨xs, v, h W' kp, h1⟩, fun x H' y => ?_⟩
  obtain ⟨rfl, y⟩ := y
  have e := y xs (h W' kp)
  rw [h1] at e
  cases e
  exact ⟨W', rfl, Ext.refl W', wk, h2.kp kp⟩
theorem jok_tup {K : PySem.W.Frag} {ca : Nat → Addr} {W : Wd} {q : Addr} {xs : List V} {ds : List D} (h : ∀ W', Kp W W' → SqT K W'.h q xs) (r : Reps K ca W xs ds) : JOk K ca W (Itt K q) ds := by
  intro W' st kp wk
  refine ⟨fun i d hd => ?_, xs, h W' kp, by rw [r.length]; exact Nat.le_refl _⟩
  obtain ⟨v, h1, h2⟩ := r.get hd
  refine ⟨⟨xs, v, h W' kp, h1⟩, fun x H' y => ?_⟩
  obtain ⟨rfl, y⟩ := y
  have e := y xs (h W' kp)
  rw [h1] at e
  cases e
  exact ⟨W', rfl, Ext.refl W', wk, h2.kp kp⟩
/-- the signs of a text -/
def signs (z : Str) : List D := z.cps.toList.map fun c => .str ⟨#[c]⟩
theorem jok_str {K : PySem.W.Frag} {ca : Nat → Addr} {W : Wd} (z : Str) : JOk K ca W (Its z) (signs z) := by
  intro W' st kp wk
  have w := walk_str (z := z)
  refine ⟨fun i d hd => ?_, ?_⟩
  · unfold signs at hd
    rw [List.getElem?_map] at hd
    have hi : i < z.cps.size := by
      rcases Nat.lt_or_ge i z.cps.size with h | h
      · exact h
      · rw [List.getElem?_eq_none (by simpa using h)] at hd; cases hd
    refine ⟨w.goes i W'.h hi trivial, fun x H' y => ?_⟩
    obtain ⟨rfl, c, h1, rfl⟩ := w.yields i W'.h x H' hi trivial y
    rw [Array.getElem?_toList, h1] at hd
    cases hd
    exact ⟨W', rfl, Ext.refl W', wk, .str _⟩
  · have e : (signs z).length = z.cps.size := by unfold signs; simp
    rw [e]
    exact w.stops W'.h trivial
def walkD : D → Option (List D) := fun d => match d with
  | .lst ds => some ds
  | .fix ds => some ds
  | .tup ds => some ds
  | .str z => some (signs z)
  | _ => none
def iVal (a : EM) : AM := fun env st => (a env st).bind fun x s => match walkD x with
  | some ds => .ok ds s
  | none => .bad
theorem ri_val (ha : RE G a ma) : RI G tg a (iVal ma) := by
  intro σ W env st R w re hp pins s I
  -- the value's kind is known once it stands: all three rules go through pe_q
  have key : QE G a σ W.h fun x H => ∃ W1 : Wd, H = W1.h ∧ ((∃ q xs, x = .ref q ∧ SqL G.X.K H q xs ∧ R (Itl G.X.K q) H) ∨ (∃ q xs, x = .ref q ∧ SqT G.X.K H q xs ∧ R (Itt G.X.K q) H) ∨ ∃ z, x = .str z ∧ R (Its z) H) := by
    refine ha σ W env st _ w re ?_
    unfold iVal at hp
    cases hm : ma env st with
    | bad => rw [hm] at hp; exact hp
    | exc c fs s1 => rw [hm] at hp; exact hp
    | ok d s1 =>
      rw [hm] at hp
      intro v W1 e1 w1 r1
      refine ⟨W1, rfl, ?_⟩
      cases r1 with
      | lst n h r => exact .inl ⟨_, _, rfl, .inl (.inl h), hp _ W1 e1 w1 (jok_list (fun W' kp => .inl (.inl (kp.keep _ _ n h))) r)⟩
      | fix n h r => exact .inl ⟨_, _, rfl, .inl h, hp _ W1 e1 w1 (jok_list (fun W' kp => .inl (kp.kw.rd n h).2) r)⟩
      | fixK h r => exact .inl ⟨_, _, rfl, h.sq, hp _ W1 e1 w1 (jok_list (fun W' kp => h.sq) r)⟩
      | tup n h r => exact .inr (.inl ⟨_, _, rfl, .inl h, hp _ W1 e1 w1 (jok_tup (fun W' kp => .inl (kp.kw.rd n h).2) r)⟩)
      | tupK h r => exact .inr (.inl ⟨_, _, rfl, h.sq, hp _ W1 e1 w1 (jok_tup (fun W' kp => h.sq) r)⟩)
      | str z => exact .inr (.inr ⟨z, rfl, hp _ W1 e1 w1 (jok_str z)⟩)
      | _ => exact hp.elim
  have tail : ∀ (x : V) (H : Hp) (v : Value) (s1 : Shared), Inv G.X pins σ H s1 → RelV x v → ((∃ q xs, x = .ref q ∧ SqL G.X.K H q xs ∧ R (Itl G.X.K q) H) ∨ (∃ q xs, x = .ref q ∧ SqT G.X.K H q xs ∧ R (Itt G.X.K q) H) ∨ ∃ z, x = .str z ∧ R (Its z) H) →
      wpAny (model G.X.prog G.X.w) G.X.A (pyIter v) (PIE G.X pins σ tg R) G.X.xe s1 := by
    intro x H v s1 I1 rv q1
    -- by the layer's own rules, read at a name that holds the value
    rcases q1 with ⟨q, xs, rfl, hs, hR⟩ | ⟨q, xs, rfl, hs, hR⟩ | ⟨z, rfl, hR⟩
    · cases rv
      obtain ⟨its, r, pl, hz⟩ := I1.list hs
      exact wpAny_pyIter_list pl.isList (pi_one (tk := s1.toks) I1 _ (turn_list q _) ⟨_, Heap.get?_push_size _ rfl, rfl, rfl⟩ hR)
    · cases rv
      obtain ⟨its, r, pl, hz⟩ := I1.tuple hs
      exact wpAny_pyIter_tuple (show s1.heap.IsTuple q its.toArray from pl) (pi_one (tk := s1.toks) I1 _ (turn_tuple q _) ⟨_, Heap.get?_push_size _ rfl, rfl, rfl⟩ hR)
    · obtain ⟨t, rfl⟩ := rv
      cases hall : z.cps.all (· < 128)
      · exact wpAny_pyIter_wide hall (pi_one (tk := s1.toks) I1 _ (turn_str _ z t "str_iterator" (.inr rfl)) ⟨_, Heap.get?_push_size _ rfl, rfl, rfl⟩ hR)
      · exact wpAny_pyIter_ascii hall (pi_one (tk := s1.toks) I1 _ (turn_str _ z t "str_ascii_iterator" (.inl rfl)) ⟨_, Heap.get?_push_size _ rfl, rfl, rfl⟩ hR)
  refine thn (key pins s I) fun v s1 hv => ?_
  obtain ⟨x, H1, I1, r1, W1, rfl, q1⟩ := hv
  exact tail x _ v s1 I1 r1 q1
/-! ### range -/
def rngL (lo : Int) (n : Nat) : List D := (List.range n).map fun (i : Nat) => .int (lo + (i : Int))
theorem jok_rng {K : PySem.W.Frag} {ca : Nat → Addr} {W : Wd} (lo : Int) (n : Nat) : JOk K ca W (Itr lo n) (rngL lo n) := by
  intro W' st kp wk
  refine ⟨fun i d hd => ?_, ?_⟩
  · unfold rngL at hd
    rw [List.getElem?_map] at hd
    have hi : i < n := by
      rcases Nat.lt_or_ge i n with h | h
      · exact h
      · rw [List.getElem?_eq_none (by simpa using h)] at hd; cases hd
    rw [List.getElem?_range hi] at hd
    cases hd
    refine ⟨hi, fun x H' y => ?_⟩
    obtain ⟨rfl, rfl⟩ := y
    exact ⟨W', rfl, Ext.refl W', wk, .int _⟩
  · show n ≤ (rngL lo n).length
    unfold rngL
    simp
noncomputable def iR1 (a : AM) : AM := fun env st => (a env st).bind fun ds s => match ds with
  | [.int n] => cif (-(2 ^ 62) ≤ n ∧ n < 2 ^ 62) (.ok (rngL 0 n.toNat) s) .bad
  | _ => .bad
noncomputable def iR2 (a : AM) : AM := fun env st => (a env st).bind fun ds s => match ds with
  | [.int m, .int n] => cif ((-(2 ^ 62) ≤ m ∧ m < 2 ^ 62) ∧ -(2 ^ 62) ≤ n ∧ n < 2 ^ 62) (.ok (rngL m (n - m).toNat) s) .bad
  | _ => .bad
theorem bindAI {W : Wd} {σ : L2.St} {r : Res (List D)} {f : List D → M (List D)} {R : It → Hp → Prop} {Q1 : List V → Hp → Prop} (h : PostI G W σ (r.bind f) R) (kk : ∀ (d : List D) (s1 : Sto) (v : List V) (W2 : Wd), Ext W W2 → WOk G.X.K G.ca W2 s1 → Reps G.X.K G.ca W2 v d → PostI G W2 σ (f d s1) R → Q1 v W2.h) : PostA G W σ r Q1 := by
  cases r with
  | ok d s1 =>
    refine fun v W2 e w r => kk d s1 v W2 e w r ?_
    have h : PostI G W σ (f d s1) R := h
    cases hf : f d s1 with
    | ok ds s2 => rw [hf] at h; exact fun J W' x => h J W' (e.trans x)
    | exc c fs s2 => rw [hf] at h; exact fun dd W' x => h dd W' (e.trans x)
    | bad => rw [hf] at h; exact h
  | exc c fs s1 => exact h
  | bad => exact h
theorem ri_range1 (hg : Gl G.X "range") (hm : G.X.mg "range" = none) (ha : RA G [a] aa) (hs : starEach [a] G.X.env = [(false, eval a G.X.env)] := by exact starEach_ns rfl) : RI G tg (.Call (.Name "range" p) [a] [] pos) (iR1 aa) := by
  intro σ W env st R w re hp
  refine qi_of (pi_range1 hg hm pa_q hs) ?_
  refine ha σ W env st _ w re (bindAI hp fun ds s1 vs W1 e1 w1 r1 p1 => ?_)
  split at p1
  · rename_i n
    by_cases hb : -(2 ^ 62) ≤ n ∧ n < 2 ^ 62
    · rw [cif_pos hb] at p1
      cases r1 with
      | cons ra rb =>
        cases rb
        cases ra
        exact ⟨n, rfl, hb.1, hb.2, p1 _ W1 (Ext.refl W1) w1 (jok_rng 0 n.toNat)⟩
    · rw [cif_neg hb] at p1; exact p1.elim
  · exact p1.elim
theorem ri_range2 (hg : Gl G.X "range") (hm : G.X.mg "range" = none) (ha : RA G [a, b] aa) (hs : starEach [a, b] G.X.env = [(false, eval a G.X.env), (false, eval b G.X.env)] := by exact star2_ns rfl rfl) (hs2 : starEach [b] G.X.env = [(false, eval b G.X.env)] := by exact starEach_ns rfl) : RI G tg (.Call (.Name "range" p) [a, b] [] pos) (iR2 aa) := by
  intro σ W env st R w re hp
  refine qi_of (pi_range2 hg hm pa_q hs hs2) ?_
  refine ha σ W env st _ w re (bindAI hp fun ds s1 vs W1 e1 w1 r1 p1 => ?_)
  split at p1
  · rename_i m n
    by_cases hb : (-(2 ^ 62) ≤ m ∧ m < 2 ^ 62) ∧ -(2 ^ 62) ≤ n ∧ n < 2 ^ 62
    · rw [cif_pos hb] at p1
      cases r1 with
      | cons ra rb =>
        cases rb with
        | cons rb rc =>
          cases rc
          cases ra
          cases rb
          exact ⟨m, n, rfl, ⟨hb.1.1, hb.1.2, hb.2.1, hb.2.2⟩, p1 _ W1 (Ext.refl W1) w1 (jok_rng m (n - m).toNat)⟩
    · rw [cif_neg hb] at p1; exact p1.elim
  · exact p1.elim
/-! ### C.f, a class's constant; C.m(..), a classmethod; a class that a name holds -/
theorem re_ccon {x : Str} {f : Str} {C : Addr} {mc : Value} {v : V} {u : Value} {d : D} {pn : Pos} (hg : Gl G.X x) (hm : G.X.mg x = some (.ref C)) (r : CRead G.X.K C mc) (c : CVal G.X.K C mc f v u) (rd : ∀ W, Rep G.X.K G.ca W v d) (hb : attributeBase (.Name x pn) f G.X.env (eval (.Name x pn) G.X.env) = eval (.Name x pn) G.X.env := by first | exact abase_ns rfl | rfl) (hd : (x == ("__debug__" : Str)) = false := by decide) :
    RE G (.Attribute (.Name x pn) f pos) (eC d) := by
  intro σ W env st Q w re hp
  exact qe_of (pe_cval (pe_glob (v := .ref C) hg hm rfl hd) hb) ⟨C, mc, v, u, rfl, r, c, hp v W (Ext.refl W) w (rd W)⟩
def eCm (c n : Nat) (g : List D → M D) (a : AM) : EM := fun env st => (a env st).bind fun ds s => if ds.length + 1 = n then g (.cls c :: ds) s else .bad
theorem re_cmeth {x : Str} {name : Str} {c : Nat} {mc : Value} {pp f : Addr} {g : List D → M D} {n : Nat} {pl : Sem Bool} {pn : Pos} (tk : Takes G.X G.E) (hr : Room k G.X.A) (hg : Gl G.X x) (hm : G.X.mg x = some (.ref (G.ca c))) (r : CRead G.X.K (G.ca c) mc) (cm : CMet G.X.K (G.ca c) mc name pp f) (hc : Df G k f n g) (ha : RA G (e :: es) aa)
    (hst : starEach (e :: es) G.X.env = (false, eval e G.X.env) :: starEach es G.X.env := by exact starEach_ns rfl) (hpl : (backTo pos (starEach es G.X.env)).any (·.1) = false := by exact plain_ns rfl) (hd : (x == ("__debug__" : Str)) = false := by decide)
    (hev : eval (.Call (.Attribute (.Name x pn) name apos) (e :: es) [] pos) G.X.env = (do
      let ov ← eval (.Name x pn) G.X.env
      standAt apos.atName
      let (f, first) ← holding [ov] (getMethod ov name pl)
      callWith pos f first (backTo pos (starEach (e :: es) G.X.env)) (backToKw pos (keywordEach [] G.X.env))) := by rfl) :
    RE G (.Call (.Attribute (.Name x pn) name apos) (e :: es) [] pos) (eCm c n g aa) := by
  intro σ W env st Q w re hp pins s I
  refine PySem.W.methodCall_KW (pl := pl) (thn ((pe_glob (v := .ref (G.ca c)) hg hm rfl hd).run pins s σ W.h (fun x H => x = .ref (G.ca c) ∧ H = W.h) I ⟨rfl, rfl⟩) fun u s1 hu => ?_) hev
  obtain ⟨y, H1, I1, ry, rfl, rfl⟩ := hu
  cases ry
  refine getmethcm_ok I1 r cm fun s2 I2 => ?_
  refine callwith_cm I2 (base_none I1 (Nat.le_refl _)) cm.fi (thn (ha σ W env st (fun vs H => ∃ W1 s3 ds, H = W1.h ∧ WOk G.X.K G.ca W1 s3 ∧ Reps G.X.K G.ca W1 vs ds ∧ ds.length + 1 = n ∧ Post G W1 σ (g (.cls c :: ds) s3) Q) w re (bindAE hp fun ds s3 vs W1 e1 w1 r1 p1 => ?_) pos _ s2 I2) fun us s3 hv => ?_) hst hpl
  · by_cases hl : ds.length + 1 = n
    · rw [if_pos hl] at p1; exact ⟨W1, s3, ds, rfl, w1, r1, hl, p1⟩
    · rw [if_neg hl] at p1; exact p1.elim
  · obtain ⟨vs, H2, I3, rv, W1, s4, ds, rfl, w1, r1, hl, p1⟩ := hv
    refine ⟨⟨pin_at I3, I3.kIn⟩, ?_⟩
    have z : wpAny (model G.X.prog G.X.w) G.X.A (call (.ref s1.heap.objs.size) us) (EP G.X ((s1.heap.objs.size, PySem.W.methodObj (.ref f) (.ref (G.ca c))) :: pins) σ Q) G.X.xe s3 :=
      wpAny_call (PySem.W.method_call (pin_at I3) (hc.code tk hr rfl w1 (.cons (.cls c) r1) hl p1 I3 (.cons rfl rv)))
    exact thn z fun _ _ y => unpinE y
/-- x(..), x a name that holds an own class -/
def eCls (tab : Tab) (i : Nat) (a : AM) : EM := fun env st => match env[i]? with
  | some (.sh (.cls c)) => (match tab.lookup c with
    | some g => (a env st).bind g
    | none => .bad)
  | _ => .bad
theorem re_cls {i : Nat} {x : Str} (ht : ∀ c g, tab.lookup c = some g → CallD G (.ref (G.ca c)) g ∧ PySem.W.keepIn G.X.K (.ref (G.ca c)) = true) (hx : PE G.X (.Name x p) (tVar i)) (ha : RA G (e :: es) aa)
    (he : starEach (e :: es) G.X.env = (false, eval e G.X.env) :: starEach es G.X.env := by exact starEach_ns rfl) (hpl : (backTo pos (starEach es G.X.env)).any (·.1) = false := by exact plain_ns rfl) : RE G (.Call (.Name x p) (e :: es) [] pos) (eCls tab i aa) := by
  intro σ W env st Q w re hp pins s I
  unfold eCls at hp
  cases h : env[i]? with
  | none => rw [h] at hp; exact hp.elim
  | some sl =>
    rw [h] at hp
    cases sl with
    | sh d =>
      cases d with
      | cls c =>
        dsimp only at hp
        cases hg : tab.lookup c with
        | none => rw [hg] at hp; exact hp.elim
        | some g =>
          rw [hg] at hp
          obtain ⟨hc, hk⟩ := ht c g hg
          obtain ⟨v, h1, h2⟩ := re.sh i _ h
          cases h2
          refine wpAny_Call_Name_kw (thn (hx.run pins s σ W.h (fun v H1 => v = .ref (G.ca c) ∧ H1 = W.h) I ⟨_, h1, rfl, rfl⟩) fun u s1 hu => ?_)
          obtain ⟨y, H1, I1, r1, rfl, rfl⟩ := hu
          cases r1
          refine PySem.W.callWith_K (h₀ := G.X.base) I.ok.mod.kin hk (thn (ha σ W env st (fun vs H => QC G (.ref (G.ca c)) σ vs H Q) w re (bindAE hp fun ds s2 vs W1 e1 w1 r1 p1 => hc σ W1 s2 vs ds Q w1 r1 p1) pos pins s1 I1) fun us s2 hu => ?_) he hpl
          obtain ⟨vs, H2, I2, r2, q2⟩ := hu
          exact ⟨I2.kIn, q2 pins s2 us I2 r2⟩
      | _ => exact hp.elim
    | no => exact hp.elim
    | oL d => exact hp.elim
    | oI c d => exact hp.elim
    | ex c d => exact hp.elim
end
end Mi
/-! MiIter: x[::-1]; walks over an own class's __iter__ that gives iter(self.f). -/
namespace Mi
open PySem PySem.Spec PyProof.Rows L2
section
variable {G : Gx} {k : Nat} {tab : Tab} {tg a b e o : Expr} {es : List Expr} {ma mb : EM} {aa : AM} {p pos apos cpos : Pos}
def revS (z : Str) : Str := ⟨((Builtin.Str.strSliceIndices none none (-1) z.length).filterMap (z.cps[·]?)).toArray⟩
def revD : D → M D := fun x st => match x with
  | .str z => if (revS z).length ≤ LIM then .ok (.str (revS z)) st else .bad
  | x => (match seqOf x st with
    | some xs => .ok (.lst xs.reverse) st
    | none => .bad)
theorem re_rev {j : Nat} {p1 p2 p3 : Pos} (ha : RE G e ma) : RE G (.Subscript e (.Slice none none (some (.UnaryOp .USub (.Constant (.int 1) j p1) p2)) p3) pos) (eUn revD ma) := by
  intro σ W env st Q w re hp pins s I
  have hst : PO G.X (some (.UnaryOp .USub (.Constant (.int 1) j p1) p2)) (tPart (tUn (rU fun i => .int (-i)) (tC (.int 1)))) := po_some (pe_un un_neg pe_int)
  refine Subscript_ (thn (ha σ W env st (fun x H => ∃ (W1 : Wd) (s1 : Sto) (d : D), H = W1.h ∧ WOk G.X.K G.ca W1 s1 ∧ Rep G.X.K G.ca W1 x d ∧ Post G W1 σ (revD d s1) Q) w re (bindEE hp fun d s1 x W1 e1 w1 r1 q1 => ⟨W1, s1, d, rfl, w1, r1, q1⟩) pins s I) fun v s1 hv => ?_)
  obtain ⟨x, H1, I1, r1, W1, st1, d, rfl, w1, rd, q1⟩ := hv
  refine wpAny_Slice (thn (po_none.run pins s1 σ W1.h (fun o H2 => o = none ∧ H2 = W1.h) I1 ⟨rfl, rfl⟩) fun vl s2 hvl => ?_)
  obtain ⟨l, H2, I2, pl, el, e2⟩ := hvl
  subst el e2
  refine thn (po_none.run pins s2 σ W1.h (fun o H3 => o = none ∧ H3 = W1.h) I2 ⟨rfl, rfl⟩) fun vu s3 hvu => ?_
  obtain ⟨u, H3, I3, pu, eu, e3⟩ := hvu
  subst eu e3
  refine thn (hst.run pins s3 σ W1.h (fun o H4 => o = some (-1) ∧ H4 = W1.h) I3 ⟨1, rfl, -1, rfl, rfl, rfl⟩) fun vs s4 hvs => ?_
  obtain ⟨so, H4, I4, ps, eo, e4⟩ := hvs
  subst eo e4
  have I5 : Inv G.X pins σ W1.h { s4 with heap := s4.heap.push { cls := .type "slice", data := .fields #[vl, vu, vs] } } := I4.kept (t' := s4.toks) fun b ob q => Heap.get?_push_of_some _ q
  show wpAny (model G.X.prog G.X.w) G.X.A (subscriptTail e (.Slice none none (some (.UnaryOp .USub (.Constant (.int 1) j p1) p2)) p3) v (.ref s4.heap.objs.size)) (EP G.X pins σ Q) G.X.xe { s4 with heap := s4.heap.push { cls := .type "slice", data := .fields #[vl, vu, vs] } }
  unfold revD at q1
  split at q1
  · rename_i z
    cases rd
    obtain ⟨t, rfl⟩ := r1
    by_cases hz : (revS z).length ≤ LIM
    · rw [if_pos hz] at q1
      refine tail_any (T := "str") (ops := [.str z t, .ref s4.heap.objs.size]) (typeIs_str _ _ _) (PySem.F.slot_str_getitem.lookup) ?_ (by with_unfolding_all rfl)
      obtain ⟨l0, rfl, el⟩ := IsPart.raw pl
      obtain ⟨u0, rfl, eu⟩ := IsPart.raw pu
      obtain ⟨t0, rfl, et⟩ := IsPart.raw ps
      cases l0 with
      | some _ => cases el
      | none =>
        cases u0 with
        | some _ => cases eu
        | none =>
          cases t0 with
          | none => cases et
          | some tt =>
            obtain ⟨ti, tk⟩ := tt
            have eti : ti = -1 := Option.some.inj et
            subst eti
            refine wpAny_getItem_str_slice (l := none) (u := none) (st := some (-1, tk)) ⟨_, Heap.get?_push_size _ rfl, rfl, rfl⟩ rfl ?_
            refine ⟨lim_le hz, .str (revS z), W1.h, I5.tok _, ⟨_, rfl⟩, q1 _ W1 (Ext.refl W1) w1 (.str _)⟩
    · rw [if_neg hz] at q1; exact q1.elim
  · cases hs : seqOf d st1 with
    | none => rw [hs] at q1; exact q1.elim
    | some xs =>
      rw [hs] at q1
      obtain ⟨q, ys, rfl, sq, r2⟩ := seqOf_at w1 rd hs
      cases r1
      obtain ⟨its, r, ht, hz⟩ := I5.list sq
      have hlen := r.length
      refine tail_any (ops := [.ref q, .ref s4.heap.objs.size]) ht.isList.typeIs (PySem.slot_list_getitem.lookup) ?_ (by with_unfolding_all rfl)
      refine wpAny_getItem_list_slice ht.isList (Heap.IsSliceOf.new _ vl vu vs) pl pu ps (by decide) ?_ (by rw [List.size_toArray]; omega)
      rw [PySem.W.krv_pick]
      have hn := I5.hok.fresh (Nat.le_refl _)
      have x1 := W1.lay_ext (o := .lst ys.reverse) hn
      exact ⟨.ref _, _, I5.laid (t' := s4.toks) (o := .lst ys.reverse) (fun b ob q => Heap.get?_push_of_some _ q) (Nat.le_refl _) ⟨by rw [List.length_reverse]; exact hz, _, 0, r.reverse, Heap.get?_push_size _ rfl⟩, rfl,
        q1 (.ref _) (W1.lay _ (.lst ys.reverse) hn) x1 (w1.lay hn) (.lst (W1.lay_nav hn) upd_same (r2.reverse.mono x1))⟩
end
/-! ### a def's body run from one entry -/
abbrev FD (K : PySem.W.Frag) (x qual : Str) (st : Stmt) (dvs : List V) (f : Addr) (fd : FuncData) : Prop := FunD K x qual (defArgs st) (defBody st) (defScope st) dvs [] f fd
theorem fn_run {CX : CXT} {P : Program} {w : World} {K : PySem.W.Frag} {mg : Str → Option Value} {base : Heap} {k : Nat} {f : Addr} {x qual : Str} {st : Stmt} {fd : FuncData} {N ps : List Str} {A : Around} {outer : List Env} {s : Shared} {H : Hp} {args : Args} {us : List Value} {vs : List V} {Q : VK} {E : XK}
    (F : FD K x qual st [] f fd) (S : FnScope N ps (defScope st)) (hr : Room (k + 1) A) (e0 : Env0 P w K mg base A outer s H) (hb : BindsTo s fd args (ps.zip us)) (r : Vals vs us) (hl : vs.length = ps.length)
    (hbody : ∀ cdv : Value, Room k (A.deeper (envOfC qual (defScope st) s.heap.objs.size f cdv)) → ∃ t, PSs (cxOf CX P w K mg base N qual (defScope st) f cdv A outer s H E) (defBody st) t ∧ t { nx := fun _ H' => Q .non H', rt := Q } (L2.start N vs) H) :
    codeAny (model P w) A (.call (.ref f) args) (CR CX outer P w H s Q E) s := by
  obtain ⟨oc, od, dV, kV, doc, pm, an, cdv, ct, osl, rfl, lk, hcd, _, _⟩ := F.ex
  have stay : ∀ b o, base.get? b = some o → s.heap.get? b = some o := fun b o z => (e0.bs b o z).1
  have KX : K.In s.heap := e0.mod.kin.keeps stay
  have kinds : ∀ y ∈ ps.zip us, (defScope st).names.lookup y.1 = some .local ∨ ((defScope st).names.lookup y.1 = some .cell ∧ ((cellsFrom (s.heap.objs.size + 1) (defScope st).names []).lookup y.1).isSome = true) := by
    rintro ⟨n, v⟩ hy
    rcases S.par n (List.of_mem_zip hy).1 with z | z
    · exact .inl z
    · exact .inr ⟨z, PySem.W.cellsFrom_some _ _ _ (.inl z)⟩
  refine codeAny_call_function hr.depth (KX _ _ lk) rfl S.co S.gen rfl (PySem.W.codeRec_of KX hcd) (hb _ _ _ _ ?_)
  refine wpAny_newFunctionEnv_cells S.kind kinds fun env he s1 y => ?_
  subst he
  refine ⟨(e0.mod.nolimit.keeps stay).keeps y.toInCall.keep, codeAny_func ?_⟩
  obtain ⟨t, ht, hq⟩ := hbody cdv (hr.deeper _)
  have I := inv_start (CX := CX) (E := E) S hr.hd e0 hl r y
  refine wpAny_mono (ht.run [] s1 _ H _ I hq) (fun fl s' hs => ?_) fun e s' hs => hs
  cases fl with
  | ret u =>
    obtain ⟨v, σ', H', J, rv, q⟩ := hs
    exact ⟨v, H', J.os, J.bare, J.base, J.hok, rv, q⟩
  | next =>
    obtain ⟨σ', H', J, q⟩ := hs
    exact ⟨.non, H', J.os, J.bare, J.base, J.hok, rfl, q⟩
  | brk => obtain ⟨_, _, _, q⟩ := hs; exact q.elim
  | cont => obtain ⟨_, _, _, q⟩ := hs; exact q.elim
/-! ### iter(text) -/
/-- a text's iterator, at its start -/
def ItS (z : Str) (t : Tok) (ty : String) (it : Addr) : HO := .ext fun h => h.IsStrIter it ty z t 0
theorem call_iterS {prog : Program} {w : World} {A : Around} {E : Value → Shared → Prop} {s : Shared} {z : Str} {t : Tok} {Q : Value → Shared → Prop} (h : wpAny (model prog w) A.in1 (pyIter (.str z t)) Q E s) : wpAny (model prog w) A (call (.builtin "iter") [.str z t]) Q E s := by
  refine Calls.call_function_entry (by decide +kernel) (by decide +kernel) PySem.W.kdk_entry_iter (PySem.W.kdk_args_iter _) ?_
  unfold Builtin.«iter»
  refine wpAny_bind (m := someArgs "iter" 1 2 _) (wpAny_of_eq (a := [Value.str z t]) (by first | rfl | kernel_rfl!) ?_)
  show wpAny _ _ (pyIter (.str z t) >>= _) _ _ _
  exact wpAny_bind (thn h fun _ _ q => wpAny_pure ⟨_, rfl, q⟩)
/-- what an iterator over v is at its birth -/
def ItAt (K : PySem.W.Frag) (H : Hp) (v : V) (it : Addr) (o : HO) : Prop := (∃ z t ty, v = .str z ∧ (ty = "str_ascii_iterator" ∨ ty = "str_iterator") ∧ o = ItS z t ty it) ∨ ∃ l xs, v = .ref l ∧ SqL K H l xs ∧ o = ItO l it 0
theorem call_iterV {X : Cx} : CallR X (.builtin "iter") (fun xs H Q => ∃ v, xs = [v] ∧ ((∃ z, v = .str z) ∨ ∃ l ys, v = .ref l ∧ SqL X.K H l ys) ∧ ∀ it o, H it = none → X.s_0.heap.objs.size ≤ it → ItAt X.K H v it o → Q (.ref it) (upd H it o)) := by
  intro pins s σ H xs us Q I r h
  obtain ⟨v, rfl, hv, q⟩ := h
  obtain ⟨u, rfl, ru⟩ := vals1 r
  rcases hv with ⟨z, rfl⟩ | ⟨l, ys, rfl, hq⟩
  · obtain ⟨t, rfl⟩ := ru
    refine call_iterS ?_
    cases hall : z.cps.all (· < 128)
    · refine wpAny_pyIter_wide hall ?_
      have st : (s.heap.push { cls := .type "str_iterator", data := .fields #[.str z t, .int 0 0] }).IsStrIter s.heap.objs.size "str_iterator" z t 0 := ⟨_, Heap.get?_push_size _ rfl, rfl, rfl⟩
      exact ⟨.ref s.heap.objs.size, _, I.laid (t' := s.toks) (o := ItS z t "str_iterator" s.heap.objs.size) (fun b u e => Heap.get?_push_of_some _ e) (Nat.le_refl _) ⟨st, ⟨_, Heap.get?_push_size _ rfl⟩, fun h1 h2 a kk => by
        obtain ⟨o, g1, g2, g3⟩ := a
        exact ⟨o, kk o g1, g2, g3⟩⟩, rfl, q _ _ (I.hok.fresh (Nat.le_refl _)) I.sz (.inl ⟨z, t, _, rfl, .inr rfl, rfl⟩)⟩
    · refine wpAny_pyIter_ascii hall ?_
      have st : (s.heap.push { cls := .type "str_ascii_iterator", data := .fields #[.str z t, .int 0 0] }).IsStrIter s.heap.objs.size "str_ascii_iterator" z t 0 := ⟨_, Heap.get?_push_size _ rfl, rfl, rfl⟩
      exact ⟨.ref s.heap.objs.size, _, I.laid (t' := s.toks) (o := ItS z t "str_ascii_iterator" s.heap.objs.size) (fun b u e => Heap.get?_push_of_some _ e) (Nat.le_refl _) ⟨st, ⟨_, Heap.get?_push_size _ rfl⟩, fun h1 h2 a kk => by
        obtain ⟨o, g1, g2, g3⟩ := a
        exact ⟨o, kk o g1, g2, g3⟩⟩, rfl, q _ _ (I.hok.fresh (Nat.le_refl _)) I.sz (.inl ⟨z, t, _, rfl, .inl rfl, rfl⟩)⟩
  · cases ru
    obtain ⟨its, rv, pl, hz⟩ := I.list hq
    refine GNX.call_iter pl.isList ?_
    exact ⟨.ref s.heap.objs.size, _, I.laid (t' := s.toks) (fun b u e => Heap.get?_push_of_some _ e) (Nat.le_refl _) (itO_ok (Heap.get?_push_size _ rfl)), rfl, q _ _ (I.hok.fresh (Nat.le_refl _)) I.sz (.inr ⟨l, ys, rfl, hq, rfl⟩)⟩
end Mi
/-! MiIter2: for x in o, o of an own class whose __iter__ gives iter(self.f). -/
namespace Mi
open PySem PySem.Spec PyProof.Rows L2 ItX
/-- the reading of such an __iter__'s body -/
def tIterF (K : PySem.W.Frag) (n : Nat) (fld : Str) : TS := tRet (tCB (fun xs H Q => ∃ v, xs = [v] ∧ ((∃ z, v = .str z) ∨ ∃ l ys, v = .ref l ∧ SqL K H l ys) ∧ ∀ it o, H it = none → n ≤ it → ItAt K H v it o → Q (.ref it) (upd H it o)) (tCons (tFld K (tVar 0) fld) tNil))
structure OwnIt (G : Gx) (c : Nat) (fld : Str) : Prop where
  cl : Cls G.X.K (G.ca c)
  na : NoAttr G.X.K (G.ca c) fld
  it : ∃ (f : Addr) (qual : Str) (st : Stmt) (fd : FuncData), FD G.X.K "__iter__" qual st [] f fd ∧ FnScope ["self"] ["self"] (defScope st) ∧ Binds G.X.K fd ["self"] [] ∧ PySem.W.findIn G.X.K (.ref (G.ca c)) "__iter__" = some (some (.ref f)) ∧ PySem.W.isFn G.X.K (.ref f) = true ∧
    ∀ cdv A outer s H E, PSs (cxOf (L2.CX G.X.prog G.X.w) G.X.prog G.X.w G.X.K G.X.mg G.X.base ["self"] qual (defScope st) f cdv A outer s H E) (defBody st) (tIterF G.X.K s.heap.objs.size fld)
def iOwn (tab : List (Nat × Str)) (a : EM) : AM := fun env st => (a env st).bind fun x s => match x with
  | .ins c fs => (match tab.lookup c with
    | some f => (match fs.lookup f with
      | some d => (match d with
        | .lst ds => .ok ds s
        | .fix ds => .ok ds s
        | .str z => .ok (signs z) s
        | _ => .bad)
      | none => .bad)
    | none => .bad)
  | x => (match walkD x with
    | some ds => .ok ds s
    | none => .bad)
section
variable {G : Gx} {tg a : Expr} {ma : EM} {tab : List (Nat × Str)}
theorem ri_own (tk : Takes G.X G.E) (hr : Room 2 G.X.A) (ht : ∀ c f, tab.lookup c = some f → OwnIt G c f) (ha : RE G a ma) : RI G tg a (iOwn tab ma) := by
  intro σ W env st R w re hp pins s I
  have key : QE G a σ W.h fun x H => ∃ W1 : Wd, H = W1.h ∧ ((∃ q xs, x = .ref q ∧ SqL G.X.K H q xs ∧ R (Itl G.X.K q) H) ∨ (∃ q xs, x = .ref q ∧ SqT G.X.K H q xs ∧ R (Itt G.X.K q) H) ∨ (∃ z, x = .str z ∧ R (Its z) H) ∨
      ∃ (c : Nat) (fld : Str) (q dx : Addr) (ws : List (Str × V)) (v : V), OwnIt G c fld ∧ x = .ref q ∧ H q = some (.ins (G.ca c) dx ws) ∧ ws.lookup fld = some v ∧ ((∃ z, v = .str z ∧ R (Its z) H) ∨ ∃ l ys, v = .ref l ∧ SqL G.X.K H l ys ∧ R (Itl G.X.K l) H)) := by
    refine ha σ W env st _ w re ?_
    unfold iOwn at hp
    cases hm : ma env st with
    | bad => rw [hm] at hp; exact hp
    | exc c fs s1 => rw [hm] at hp; exact hp
    | ok d s1 =>
      rw [hm] at hp
      intro v W1 e1 w1 r1
      refine ⟨W1, rfl, ?_⟩
      cases r1 with
      | lst n h r => exact .inl ⟨_, _, rfl, .inl (.inl h), hp _ W1 e1 w1 (jok_list (fun W' kp => .inl (.inl (kp.keep _ _ n h))) r)⟩
      | fix n h r => exact .inl ⟨_, _, rfl, .inl h, hp _ W1 e1 w1 (jok_list (fun W' kp => .inl (kp.kw.rd n h).2) r)⟩
      | fixK h r => exact .inl ⟨_, _, rfl, h.sq, hp _ W1 e1 w1 (jok_list (fun W' kp => h.sq) r)⟩
      | tup n h r => exact .inr (.inl ⟨_, _, rfl, .inl h, hp _ W1 e1 w1 (jok_tup (fun W' kp => .inl (kp.kw.rd n h).2) r)⟩)
      | tupK h r => exact .inr (.inl ⟨_, _, rfl, h.sq, hp _ W1 e1 w1 (jok_tup (fun W' kp => h.sq) r)⟩)
      | str z => exact .inr (.inr (.inl ⟨z, rfl, hp _ W1 e1 w1 (jok_str z)⟩))
      | ins n h rf =>
        rename_i q dx c ws fs
        have hp : PostI G W σ (match tab.lookup c with
          | some f => (match fs.lookup f with
            | some d => (match d with
              | .lst ds => .ok ds s1
              | .fix ds => .ok ds s1
              | .str z => .ok (signs z) s1
              | _ => .bad)
            | none => .bad)
          | none => .bad) R := hp
        cases hc : tab.lookup c with
        | none => rw [hc] at hp; exact hp.elim
        | some f =>
          rw [hc] at hp
          dsimp only at hp
          cases hl : fs.lookup f with
          | none => rw [hl] at hp; exact hp.elim
          | some d =>
            rw [hl] at hp
            obtain ⟨v, h1, h2⟩ := rf.look hl
            refine .inr (.inr (.inr ⟨c, f, q, dx, ws, v, ht c f hc, rfl, h, h1, ?_⟩))
            cases h2 with
            | lst n h r => exact .inr ⟨_, _, rfl, .inl (.inl h), hp _ W1 e1 w1 (jok_list (fun W' kp => .inl (.inl (kp.keep _ _ n h))) r)⟩
            | fix n h r => exact .inr ⟨_, _, rfl, .inl h, hp _ W1 e1 w1 (jok_list (fun W' kp => .inl (kp.kw.rd n h).2) r)⟩
            | fixK h r => exact .inr ⟨_, _, rfl, h.sq, hp _ W1 e1 w1 (jok_list (fun W' kp => h.sq) r)⟩
            | str z => exact .inl ⟨z, rfl, hp _ W1 e1 w1 (jok_str z)⟩
            | _ => exact hp.elim
      | _ => exact hp.elim
  refine thn (key pins s I) fun u s1 hu => ?_
  obtain ⟨x, H1, I1, r1, W1, rfl, q1⟩ := hu
  rcases q1 with ⟨q, xs, rfl, hs, hR⟩ | ⟨q, xs, rfl, hs, hR⟩ | ⟨z, rfl, hR⟩ | ⟨c, fld, q, dx, ws, v, O, rfl, hq, hlk, hv⟩
  · cases r1
    obtain ⟨its, r, pl, hz⟩ := I1.list hs
    exact wpAny_pyIter_list pl.isList (pi_one (tk := s1.toks) I1 _ (turn_list q _) ⟨_, Heap.get?_push_size _ rfl, rfl, rfl⟩ hR)
  · cases r1
    obtain ⟨its, r, pl, hz⟩ := I1.tuple hs
    exact wpAny_pyIter_tuple (show s1.heap.IsTuple q its.toArray from pl) (pi_one (tk := s1.toks) I1 _ (turn_tuple q _) ⟨_, Heap.get?_push_size _ rfl, rfl, rfl⟩ hR)
  · obtain ⟨t, rfl⟩ := r1
    cases hall : z.cps.all (· < 128)
    · exact wpAny_pyIter_wide hall (pi_one (tk := s1.toks) I1 _ (turn_str _ z t "str_iterator" (.inr rfl)) ⟨_, Heap.get?_push_size _ rfl, rfl, rfl⟩ hR)
    · exact wpAny_pyIter_ascii hall (pi_one (tk := s1.toks) I1 _ (turn_str _ z t "str_ascii_iterator" (.inl rfl)) ⟨_, Heap.get?_push_size _ rfl, rfl, rfl⟩ hR)
  · cases r1
    obtain ⟨f, qual, stI, fd, F, S, bd, f1, f2, der⟩ := O.it
    obtain ⟨ox, od, J⟩ := inst_at I1 hq
    obtain ⟨m, hF⟩ := I1.fr
    refine PySem.W.owit_iter hF I1.ok.mod.kin J f1 f2 ?_
    have hsq : (∃ z, v = .str z) ∨ ∃ l ys, v = .ref l ∧ SqL G.X.K W1.h l ys := by
      rcases hv with ⟨z, e, _⟩ | ⟨l, ys, e, h2, _⟩
      · exact .inl ⟨z, e⟩
      · exact .inr ⟨l, ys, e, h2⟩
    have b1 := bd s1 [.ref q] I1.kIn rfl
    have run : codeAny (model G.X.prog G.X.w) G.X.A (.call (.ref f) ⟨[.ref q], []⟩) (CR (L2.CX G.X.prog G.X.w) G.X.stack G.X.prog G.X.w W1.h s1 (fun r H' => ∃ it o, r = .ref it ∧ W1.h it = none ∧ s1.heap.objs.size ≤ it ∧ ItAt G.X.K W1.h v it o ∧ H' = upd W1.h it o) E0) s1 := by
      refine fn_run (vs := [.ref q]) (us := [.ref q]) F S hr I1.env0 b1 (.cons rfl .nil) rfl fun cdv hr2 => ⟨_, der cdv _ _ _ _ _, ?_⟩
      refine ⟨.ref q, rfl, q, _, dx, ws, v, rfl, hq, O.cl, O.na, hlk, v, rfl, hsq, fun it o h1 h2 h3 => ⟨it, o, rfl, h1, h2, h3, rfl⟩⟩
    refine wpAny_call (codeAny_mono run fun res s' hz => ?_)
    cases res with
    | error ex =>
      exfalso
      obtain ⟨_, _, _, _, _, _, _, _, _, _, _, _, z⟩ := hz
      exact z
    | ok fl =>
      cases fl with
      | next => exact hz.elim
      | brk => exact hz.elim
      | cont => exact hz.elim
      | ret u =>
        obtain ⟨rv, H', I', rr, it, o, rfl, hn, hge, hat, rfl⟩ := I1.after hz
        cases rr
        have hsz : G.X.s_0.heap.objs.size ≤ it := Nat.le_trans I1.sz hge
        unfold PySem.W.OwitIt
        rcases hat with ⟨z, t, ty, rfl, hty, rfl⟩ | ⟨l, ys, rfl, hl, rfl⟩
        · have hst : s'.heap.IsStrIter it ty z t 0 := (I'.hok it _ upd_same).1
          have hT : s'.TypeIs (.ref it) ty := by
            obtain ⟨oo, g1, g2, _⟩ := hst
            exact ⟨oo, g1, g2⟩
          have hR : R (Its z) W1.h := by
            rcases hv with ⟨z', e, hR⟩ | ⟨l, ys, e, _⟩
            · cases e; exact hR
            · cases e
          have fin : PIE G.X pins σ tg R (.ref it) s' := by
            have J0 := inv_drop I' upd_same
            rw [dropH_upd hn] at J0
            refine ⟨it, [it], _, Its z, W1.h, rfl, J0, turn_str it z t ty hty, hst, fun b hb => ?_, hR⟩
            have eb : b = it := by simpa using hb
            subst eb
            have fp := inv_fp I' upd_same hsz
            rw [dropH_upd hn] at fp
            exact fp
          rcases hty with e | e
          · subst e; exact wpAny_specialOf hT PySem.F.slot_str_ascii_iterator_next.lookup fin
          · subst e; exact wpAny_specialOf hT PySem.F.slot_str_iterator_next.lookup fin
        · have hst : s'.heap.get? it = some (GNX.itObj l 0) := (I'.hok it _ upd_same).1
          have hT : s'.TypeIs (.ref it) "list_iterator" := ⟨_, hst, rfl⟩
          have hR : R (Itl G.X.K l) W1.h := by
            rcases hv with ⟨z', e, hR⟩ | ⟨l', ys', e, _, hR⟩
            · cases e
            · cases e; exact hR
          have fin : PIE G.X pins σ tg R (.ref it) s' := by
            have J0 := inv_drop I' upd_same
            rw [dropH_upd hn] at J0
            refine ⟨it, [it], _, Itl G.X.K l, W1.h, rfl, J0, turn_list l it, ⟨_, hst, rfl, rfl⟩, fun b hb => ?_, hR⟩
            have eb : b = it := by simpa using hb
            subst eb
            have fp := inv_fp I' upd_same hsz
            rw [dropH_upd hn] at fp
            exact fp
          exact wpAny_specialOf hT PySem.slot_listiter_next.lookup fin
end
end Mi
/-! MiEnd: defs with defaults, exceptions' __init__, the end of a law. -/
namespace Mi
open PySem PySem.Spec PyProof.Rows L2
section
variable {P : Program} {w : World} {K : PySem.W.Frag} {mg : Str → Option Value} {base : Heap} {ca : Nat → Addr} {x qual : Str} {st : Stmt} {dvs : List V} {f : Addr} {fd : FuncData} {N ps : List Str} {k c : Nat} {b : SM}
theorem fd_mk {oc : Value} {od an : Option Addr} {osl : Array (Option Value)} {kV doc pm cdv ct : Value} (l : K.lookup f = some ⟨oc, od, .func (PySem.W.fnOf x qual (defArgs st) (defBody st) (defScope st) .none kV doc pm an cdv ct), osl⟩)
    (c : PySem.W.codeIn K cdv qual = true) (k : PySem.W.keepIn K (.ref f) = true) : FD K x qual st [] f (PySem.W.fnOf x qual (defArgs st) (defBody st) (defScope st) .none kV doc pm an cdv ct) := ⟨⟨oc, od, .none, kV, doc, pm, an, cdv, ct, osl, rfl, l, c, .inl ⟨rfl, rfl⟩, .inl rfl⟩, k⟩
theorem fd_mkD {oc : Value} {od an : Option Addr} {osl : Array (Option Value)} {kV doc pm cdv ct : Value} {T : Addr} {o : Obj} {its : List Value} {n : Nat} (l : K.lookup f = some ⟨oc, od, .func (PySem.W.fnOf x qual (defArgs st) (defBody st) (defScope st) (.ref T) kV doc pm an cdv ct), osl⟩)
    (c : PySem.W.codeIn K cdv qual = true) (k : PySem.W.keepIn K (.ref f) = true) (lT : K.lookup T = some o) (oT : o.data = .seq its.toArray n) (hne : dvs ≠ []) (hv : Vals dvs its) : FD K x qual st dvs f (PySem.W.fnOf x qual (defArgs st) (defBody st) (defScope st) (.ref T) kV doc pm an cdv ct) :=
  ⟨⟨oc, od, .ref T, kV, doc, pm, an, cdv, ct, osl, rfl, l, c, .inr ⟨hne, T, o, its, n, rfl, lT, oT, hv⟩, .inl rfl⟩, k⟩
theorem FD.binds0 (F : FD K x qual st [] f fd) (h : ∀ (kV doc pm : Value) (an : Option Addr) (cdv ct : Value) (us : List Value), us.length = ps.length → bindArgs (PySem.W.fnOf x qual (defArgs st) (defBody st) (defScope st) .none kV doc pm an cdv ct) ⟨us, []⟩ = pure (ps.zip us)) : Binds K fd ps [] := by
  obtain ⟨oc, od, dV, kV, doc, pm, an, cdv, ct, osl, rfl, lk, hcd, hD, _⟩ := F.ex
  rcases hD with ⟨_, rfl⟩ | ⟨e, _⟩
  · exact .all (h kV doc pm an cdv ct)
  · exact absurd rfl e
theorem fn_okD (F : FD K x qual st dvs f fd) (S : FnScope N ps (defScope st))
    (hb : ∀ (cdv : Value) (A : Around) (outer : List Env) (s : Shared) (H : Hp) (E : XK), Room k (A.deeper (envOfC qual (defScope st) s.heap.objs.size f cdv)) → RSs (gx P w K mg base ca N qual (defScope st) f cdv A outer s H E) (defBody st) b) :
    FnOk P w K mg base (L2.CX P w) (k + 1) f fd ps (spM K ca ps.length (runBody N.length b)) := by
  refine FunD.ok F S (fun vs H Q E h => ?_) fun cdv A outer s H vs Q E hr h => ⟨QSs (gx P w K mg base ca N qual (defScope st) f cdv A outer s H E) (defBody st), pss_q (G := gx P w K mg base ca N qual (defScope st) f cdv A outer s H E), ?_⟩
  · obtain ⟨W, sto, ds, _, _, r, hl, _⟩ := h
    rw [r.length, hl]
  · obtain ⟨W, sto, ds, rfl, wk, r, hl, p⟩ := h
    refine hb cdv A outer s W.h E hr (L2.start N vs) W (env0 N.length ds) sto _ wk (repE_start r) ?_
    have no : ∀ i p, ¬ Own (L2.start N vs) (env0 N.length ds) i p := fun i p => env0_own
    unfold runBody at p
    cases hm : b (env0 N.length ds) sto with
    | nx env' st' => rw [hm] at p; exact fun σ' W' x w' _ => p .non W' (x.ext no) w' .non
    | rt d st' => rw [hm] at p; exact fun v W' x w' r' => p v W' (x.ext no) w' r'
    | bk env' st' => rw [hm] at p; exact p.elim
    | ct env' st' => rw [hm] at p; exact p.elim
    | exc env' c fs st' => rw [hm] at p; exact fun σ' dd W' x w' _ rx => p dd W' (x.ext no) w' rx
    | bad => rw [hm] at p; exact p
/-- an __init__ whose self is owned, with defaults -/
theorem init_okD (F : FD K x qual st dvs f fd) (S : FnScope N ps (defScope st)) (hps : 1 ≤ ps.length) (hN : ps.length ≤ N.length)
    (hb : ∀ (cdv : Value) (A : Around) (outer : List Env) (s : Shared) (H : Hp) (E : XK), Room k (A.deeper (envOfC qual (defScope st) s.heap.objs.size f cdv)) → RSs (gx P w K mg base ca N qual (defScope st) f cdv A outer s H E) (defBody st) b) :
    FnOk P w K mg base (L2.CX P w) (k + 1) f fd ps (spI K ca c (ps.length - 1) (runInit c N.length b)) := by
  obtain ⟨oc, od, dV, kV, doc, pm, an, cdv, ct, osl, rfl, lk, hcd, _, _⟩ := F.ex
  refine fn_of lk hcd S (fun vs H Q E h => ?_) fun A outer s H vs Q E hr h => ⟨QSs (gx P w K mg base ca N qual (defScope st) f cdv A outer s H E) (defBody st), pss_q (G := gx P w K mg base ca N qual (defScope st) f cdv A outer s H E), ?_⟩
  · obtain ⟨x, vs', W, sto, ds, dx, rfl, _, _, _, _, _, r, hl, _⟩ := h
    rw [List.length_cons, r.length, hl]
    omega
  · exact init_body hps hN (hb cdv A outer s H E hr) h
end
/-! ### the end -/
/-- the law's promise, whatever the classes' addresses -/
def spLaw (m : List D → M D) (K : PySem.W.Frag) : Sp := fun vs H Q E => vs.length = 1 ∧ ∀ ca, spM K ca 1 m vs H Q E
theorem law_fn {P : Program} {w : World} {K : PySem.W.Frag} {mg : Str → Option Value} {base : Heap} {ca : Nat → Addr} {k : Nat} {f : Addr} {fd : FuncData} {ps : List Str} {m : List D → M D} (F : FnOk P w K mg base (L2.CX P w) k f fd ps (spM K ca 1 m)) : FnOk P w K mg base (L2.CX P w) k f fd ps (spLaw m K) :=
  F.imp fun vs H Q E h => h.2 ca
theorem reps_ints {K : PySem.W.Frag} {ca : Nat → Addr} {W : Wd} : ∀ ns : List Int, Reps K ca W (ns.map V.int) (ns.map D.int)
  | [] => .nil
  | n :: ns => .cons (.int n) (reps_ints ns)
theorem law_sp {m : List D → M D} {K : PySem.W.Frag} {H : Hp} {a : Addr} {ns : List Int} (hm : ∃ st, m [.fix (ns.map D.int)] [] = .ok (.bl true) st) (hS : SqL K H a (ns.map V.int)) : spLaw m K [.ref a] H (fun v _ => v = .bl true) fun _ _ _ => False := by
  refine ⟨rfl, fun ca => ?_⟩
  obtain ⟨st, hm⟩ := hm
  refine ⟨⟨fun _ => False, [], H, fun _ h => h.elim, fun _ h => by cases h⟩, [], [.fix (ns.map D.int)], rfl, ⟨List.nodup_nil, rfl, fun n p c h => by simp at h⟩, .cons ?_ .nil, rfl, ?_⟩
  · rcases hS with h | h
    · exact .fix (fun z => z) h (reps_ints ns)
    · exact .fixK (.inr h) (reps_ints ns)
  · rw [hm]
    intro v W' _ _ r
    cases r
    rfl
theorem law_walk {l : PySem.W.OpenLaw} {q : Program} {loose : List Str} {XP : (Str → Option Value) → Heap → Prop} {YP : World → Heap → Prop} {d : DefRec} {K : Params → PySem.W.Frag} {k : Nat} {x : Str} {m : List D → M D} (hn : l.most = some 63) (hdf : d.params.defaults = []) (hr : Room k callerA)
    (hm : ∀ ns : List Int, ns.length ≤ 63 → ∃ st, m [.fix (ns.map D.int)] [] = .ok (.bl true) st)
    (hY : ∀ (w : World) (h : Heap), YP w h → (K w.params).In h)
    (F : ∀ (w : World) (mg : Str → Option Value) (fa : Addr) (h : Heap), (K w.params).In h → h.Ns mainGlobals mg → mg d.name = some (.ref fa) →
      ∃ fd : FuncData, (∀ (s : Shared) (u : Value), BindsTo s fd ⟨[u], []⟩ [(x, u)]) ∧ ∀ base : Heap, (K w.params).In base → base.Ns mainGlobals mg → FnOk l.prog w (K w.params) mg base (L2.CX l.prog w) k fa fd [x] (spLaw m (K w.params))) :
    PySem.W.WalkO q loose XP YP l.row.toRowW d [] (fun f vs => PySem.call f vs) :=
  L2.walk_of (n := 63) (k := k) (x := x) (CX := fun w => L2.CX l.prog w) (sp := fun w => spLaw m (K w.params)) hn (by decide) hdf hr hY F (fun _ _ a ns hl _ hS => law_sp (hm ns hl) hS) fun w H s e s' z => by
    obtain ⟨_, _, _, _, _, _, _, _, _, _, _, _, z⟩ := z
    exact z
/-! ### an exception's __init__(self, f): self.f = f -/
theorem x_init1 {P : Program} {w : World} {K : PySem.W.Frag} {mg : Str → Option Value} {base : Heap} {x qual : Str} {st : Stmt} {f C : Addr} {fd : FuncData} {a1 f1 : Str} (F : FD K x qual st [] f fd) (S : FnScope ["self", a1] ["self", a1] (defScope st)) (T : OexC K C) (hno : PySem.W.findIn K (.ref C) f1 = some none)
    (der : ∀ cdv A outer s H E, PSs (cxOf (L2.CX P w) P w K mg base ["self", a1] qual (defScope st) f cdv A outer s H E) (defBody st) (tOst K f1 (tVar 0) (tVar 1))) : FnOk P w K mg base (L2.CX P w) 1 f fd ["self", a1] (spX C [f1]) := by
  refine FunD.ok (k := 0) F S (fun vs H Q E h => ?_) fun cdv A outer s H vs Q E hr h => ⟨_, der cdv A outer s H E, ?_⟩
  · obtain ⟨a, ws, rfl, hl, _⟩ := h
    rw [List.length_cons, hl]; rfl
  · obtain ⟨a, ws, rfl, hl, ha, k⟩ := h
    match ws, hl with
    | [v], _ =>
      refine ⟨v, rfl, .ref a, rfl, a, C, rfl, T, hno, .inl ⟨ha, fun dx hd ne => ?_⟩⟩
      refine k dx _ hd ne (fun b h1 h2 => ?_) upd_same ?_
      · rw [upd_ne h1, upd_ne h2]
      · rw [upd_ne ne, upd_same]; rfl
end Mi
/-! MiSuite: rules that ask no room (for except suites). -/
namespace Mi
open PySem PySem.Spec PyProof.Rows L2
section
variable {G : Gx}
def eqS : D → D → M D := fun x y st => match x, y with
  | .int i, .int j => .ok (.bl (decide (i = j))) st
  | .str a, .str b => .ok (.bl (decide (a = b))) st
  | .bl a, .bl b => .ok (.bl (decide (a = b))) st
  | _, _ => .bad
theorem cd_eqS : OpD G (compareOp .Eq) eqS := by
  intro σ W st x y dx dy Q wk rx ry p
  unfold eqS at p
  split at p
  · rename_i i j
    cases rx; cases ry
    exact qo_of op_eq ⟨rfl, by rw [dec_vi]; exact p _ W (Ext.refl W) wk (.bl _)⟩
  · rename_i i j
    cases rx; cases ry
    exact qo_of op_eq ⟨rfl, by rw [dec_vs]; exact p _ W (Ext.refl W) wk (.bl _)⟩
  · rename_i i j
    cases rx; cases ry
    exact qo_of op_eq ⟨rfl, by rw [dec_vb]; exact p _ W (Ext.refl W) wk (.bl _)⟩
  · exact p.elim
def neS : D → D → M D := fun x y st => match x, y with
  | .int i, .int j => .ok (.bl (!decide (i = j))) st
  | .str a, .str b => .ok (.bl (!decide (a = b))) st
  | .bl a, .bl b => .ok (.bl (!decide (a = b))) st
  | _, _ => .bad
theorem cd_neS : OpD G (compareOp .NotEq) neS := by
  intro σ W st x y dx dy Q wk rx ry p
  unfold neS at p
  split at p
  · rename_i i j
    cases rx; cases ry
    exact qo_of op_ne ⟨rfl, by rw [dec_vi]; exact p _ W (Ext.refl W) wk (.bl _)⟩
  · rename_i i j
    cases rx; cases ry
    exact qo_of op_ne ⟨rfl, by rw [dec_vs]; exact p _ W (Ext.refl W) wk (.bl _)⟩
  · rename_i i j
    cases rx; cases ry
    exact qo_of op_ne ⟨rfl, by rw [dec_vb]; exact p _ W (Ext.refl W) wk (.bl _)⟩
  · exact p.elim
def truS : D → M Bool := fun x st => match x with
  | .non => .ok false st
  | .bl b => .ok b st
  | .int i => .ok (i != 0) st
  | .str y => if y.length ≤ LIM then .ok ((y.length : Int) != 0) st else .bad
  | .tup xs => .ok (!xs.isEmpty) st
  | x => (match seqOf x st with
    | some xs => .ok (!xs.isEmpty) st
    | none => .bad)
theorem td_truS : TrD G truS := by
  intro σ W st x dx Q wk rx p
  unfold truS at p
  split at p
  · cases rx; exact qtr_of tru_ok ⟨false, rfl, p W (Ext.refl W) wk⟩
  · rename_i b; cases rx; exact qtr_of tru_ok ⟨b, rfl, p W (Ext.refl W) wk⟩
  · rename_i i; cases rx; exact qtr_of tru_ok ⟨_, rfl, p W (Ext.refl W) wk⟩
  · rename_i y
    cases rx
    by_cases hl : y.length ≤ LIM
    · rw [if_pos hl] at p; exact qtr_of tru_ok ⟨_, ⟨lim_le hl, rfl⟩, p W (Ext.refl W) wk⟩
    · rw [if_neg hl] at p; exact p.elim
  · rename_i xs
    obtain ⟨q, ys, rfl, s1, r1⟩ := rx.sqT
    exact qtr_of tru_ok ⟨_, .inr (.inl ⟨ys, s1, rfl⟩), by rw [isEmpty_reps r1]; exact p W (Ext.refl W) wk⟩
  · split at p
    · rename_i xs hs
      obtain ⟨q, ys, rfl, s1, r1⟩ := seqOf_at wk rx hs
      exact qtr_of tru_ok ⟨_, .inl ⟨ys, s1, rfl⟩, by rw [isEmpty_reps r1]; exact p W (Ext.refl W) wk⟩
    · exact p.elim
end
end Mi
/-! MiGen: the rules with their tables as written lists, for texts that a program prints. -/
namespace Mi
open PySem PySem.Spec PyProof.Rows L2
theorem al_nil {α β : Type} [BEq α] {P : α → β → Prop} : ∀ c b, ([] : List (α × β)).lookup c = some b → P c b := fun c b h => by cases h
theorem al_cons {α β : Type} [BEq α] [LawfulBEq α] {P : α → β → Prop} {a : α} {b : β} {l : List (α × β)} (h : P a b) (t : ∀ c b, l.lookup c = some b → P c b) : ∀ c b', ((a, b) :: l).lookup c = some b' → P c b' := fun c b' e => by
  rw [List.lookup_cons] at e
  cases q : c == a with
  | true =>
    rw [q] at e
    cases e
    rw [beq_iff_eq.mp q]
    exact h
  | false => rw [q] at e; exact t c b' e
abbrev ClsOf (K : PySem.W.Frag) (ca : Nat → Addr) (t : Tag) : Prop := ∀ c, t = .own c → ClsX K (ca c)
theorem co_no {K : PySem.W.Frag} {ca : Nat → Addr} {t : Tag} (h : ∀ c, t ≠ .own c := by intro c z; cases z) : ClsOf K ca t := fun c e => absurd e (h c)
theorem co_own {K : PySem.W.Frag} {ca : Nat → Addr} {c : Nat} (h : ClsX K (ca c)) : ClsOf K ca (.own c) := fun c' e => by cases e; exact h
section
variable {G : Gx} {k : Nat} {tab : Tab} {e e2 : Expr} {ma : EM} {p pos : Pos}
abbrev TagB := List (Tag × Bool)
theorem re_isiL {v2 : V} {cv : Value} {l : TagB} (h : ∀ t b, l.lookup t = some b → PySem.W.kitOne G.X.K (tagV G.ca t) cv = some b ∧ ClsOf G.X.K G.ca t) (hv2 : ∀ u, RelV v2 u → u = cv)
    (ha : RE G e ma) (he2 : PE G.X e2 (tC v2)) (hg : Gl G.X "isinstance") (hm : G.X.mg "isinstance" = none)
    (hs1 : starEach (e :: [e2]) G.X.env = (false, eval e G.X.env) :: starEach [e2] G.X.env := by exact starEach_ns rfl) (hs2 : starEach (e2 :: []) G.X.env = (false, eval e2 G.X.env) :: starEach [] G.X.env := by exact starEach_ns rfl) (hpl : (backTo pos (starEach [e2] G.X.env)).any (·.1) = false := by exact plain_ns rfl) :
    RE G (.Call (.Name "isinstance" p) [e, e2] [] pos) (eIsi (fun t => l.lookup t) ma) := by
  refine re_isi (fun c hc => ?_) (fun t b hb => (h t b hb).1) hv2 ha he2 hg hm hs1 hs2 hpl
  obtain ⟨b, hb⟩ := Option.isSome_iff_exists.mp hc
  exact (h _ b hb).2 c rfl
/-- which class may be compared with which type -/
abbrev NfL := List ((Nat × Tag) × Bool)
def nfL (l : NfL) (c : Nat) (t : Tag) : Bool := l.lookup (c, t) == some true
abbrev NfP (K : PySem.W.Frag) (ca : Nat → Addr) (p : Nat × Tag) (_ : Bool) : Prop := PySem.W.notFirst K (ca p.1) (tagV ca p.2) = true ∧ ClsOf K ca p.2
theorem cd_eqL {l : NfL} (tk : Takes G.X G.E) (hr : Room k G.X.A) (ht : TabOk G k "__eq__" 2 tab) (h : ∀ p b, l.lookup p = some b → NfP G.X.K G.ca p b) : OpD G (compareOp .Eq) (eqD tab (nfL l)) :=
  cd_eq tk hr ht fun c t hn => h (c, t) true (beq_iff_eq.mp hn)
theorem cd_leL {l : NfL} (tk : Takes G.X G.E) (hr : Room k G.X.A) (ht : TabOk G k "__le__" 2 tab) (h : ∀ p b, l.lookup p = some b → NfP G.X.K G.ca p b) : OpD G (compareOp .LtE) (leD tab (nfL l)) :=
  cd_le tk hr ht fun c t hn => h (c, t) true (beq_iff_eq.mp hn)
abbrev ClB := List (Nat × Bool)
def subL (l : ClB) (c : Nat) : Option Bool := l.lookup c
end
end Mi
/-! MiGen2: calls with what is bound, tables of exceptions. -/
namespace Mi
open PySem PySem.Spec PyProof.Rows L2 ClX
def BD (K : PySem.W.Frag) (fd : FuncData) (ps : List Str) (dvs : List V) : Prop := ∃ ds, Vals dvs ds ∧ Binds K fd ps ds
theorem BD.b0 {K : PySem.W.Frag} {fd : FuncData} {ps : List Str} (h : BD K fd ps []) : Binds K fd ps [] := by
  obtain ⟨ds, v, b⟩ := h
  cases v
  exact b
theorem bd0 {K : PySem.W.Frag} {x qual : Str} {st : Stmt} {f : Addr} {fd : FuncData} {ps : List Str} (F : FD K x qual st [] f fd) (h : ∀ (kV doc pm : Value) (an : Option Addr) (cdv ct : Value) (us : List Value), us.length = ps.length → bindArgs (PySem.W.fnOf x qual (defArgs st) (defBody st) (defScope st) .none kV doc pm an cdv ct) ⟨us, []⟩ = pure (ps.zip us)) : BD K fd ps [] :=
  ⟨[], .nil, F.binds0 h⟩
section
variable {G : Gx} {k n c : Nat} {f : Addr} {fd : FuncData} {ps : List Str} {m : List D → M D} {mi : List D → M Fs} {dvs : List V} {dds : List D} {name : Str}
theorem call_defE (tk : Takes G.X G.E) (F : FnOk G.X.prog G.X.w G.X.K G.X.mg G.X.base (L2.CX G.X.prog G.X.w) k f fd ps (spM G.X.K G.ca n m)) (hr : Room k G.X.A) (hb : BD G.X.K fd ps dvs) (rd : ∀ W, Reps G.X.K G.ca W dvs dds) : CallD G (.ref f) (mCall n dds m) := by
  obtain ⟨ds, v, b⟩ := hb
  exact call_def tk F hr b v rd
theorem call_newE (tk : Takes G.X G.E) (Mk1 : Mk G.X.K (G.ca c) f) (F : FnOk G.X.prog G.X.w G.X.K G.X.mg G.X.base (L2.CX G.X.prog G.X.w) k f fd ps (spI G.X.K G.ca c n mi)) (hr : Room (k + 1) G.X.A) (hb : BD G.X.K fd ps dvs) (rd : ∀ W, Reps G.X.K G.ca W dvs dds) : CallD G (.ref (G.ca c)) (mNew c n dds mi) := by
  obtain ⟨ds, v, b⟩ := hb
  exact call_new tk Mk1 F hr b v rd
theorem df_mk (F : FnOk G.X.prog G.X.w G.X.K G.X.mg G.X.base (L2.CX G.X.prog G.X.w) k f fd ps (spM G.X.K G.ca n m)) (hb : BD G.X.K fd ps []) : Df G k f n m := ⟨fd, ps, F, hb.b0⟩
theorem tb_meth {tab : Tab} {j : Nat} (F : Df G j f n m) (h : j ≤ k) (me : Meth G.X.K (G.ca c) name f) (sf : PySem.W.selfFirst G.X.K (G.ca c) = true) (t : TabOk G k name n tab) : TabOk G k name n ((c, m) :: tab) := tb_cons (F.mono h) me.at_ me.fn sf t
theorem mo_mk {g : List D → M D} (cl : Cls G.X.K (G.ca c)) (me : Meth G.X.K (G.ca c) name f) (h : CallD G (.ref f) g) : MOk G name c g := ⟨cl, f, me, h⟩
theorem re_cel {e : Expr} {m : AM} (h : RL G e m) : RE G e (eCel m) := RdL.c (t := QE G e) h
theorem re_cconE {x : Str} {f : Str} {C : Addr} {mc : Value} {v : V} {d : D} {pn pos : Pos} (hg : Gl G.X x) (hm : G.X.mg x = some (.ref C)) (r : CRead G.X.K C mc) (c : ∃ u, CVal G.X.K C mc f v u) (rd : ∀ W, Rep G.X.K G.ca W v d) (hb : attributeBase (.Name x pn) f G.X.env (eval (.Name x pn) G.X.env) = eval (.Name x pn) G.X.env := by first | exact abase_ns rfl | rfl) (hd : (x == ("__debug__" : Str)) = false := by decide) :
    RE G (.Attribute (.Name x pn) f pos) (eC d) := let ⟨_, c⟩ := c; re_ccon hg hm r c rd hb hd
theorem mb_nil {α : Type} {P : α → Prop} : ∀ c ∈ ([] : List α), P c := fun c h => by cases h
theorem mb_cons {α : Type} {P : α → Prop} {a : α} {l : List α} (h : P a) (t : ∀ c ∈ l, P c) : ∀ c ∈ a :: l, P c := fun c z => by
  rcases List.mem_cons.mp z with e | e
  · rw [e]; exact h
  · exact t c e
theorem xb_cons {tab : Tab} {P : Nat → Prop} {g : List D → M D} (h : P c) (t : ∀ c, (tab.lookup c).isSome = true → P c) : ∀ c', (((c, g) :: tab : Tab).lookup c').isSome = true → P c' := fun c' z => by
  rw [List.lookup_cons] at z
  cases q : c' == c with
  | true => rw [beq_iff_eq.mp q]; exact h
  | false => rw [q] at z; exact t c' z
theorem xb_nil {P : Nat → Prop} : ∀ c', (([] : Tab).lookup c').isSome = true → P c' := fun c' z => by cases z
end
section
variable {G : Gx} {e e2 : Expr} {a : Addr} {oe : Obj} {cls cv : Value} {d : Option Addr} {pn : List (Addr × Obj)} {i : Nat} {pos : Pos}
theorem re_isXL {v2 : V} {p : Pos} {l : ClB} (h : ∀ c b, l.lookup c = some b → PySem.W.kitOne G.X.K (.ref (G.ca c)) cv = some b ∧ ExcC G.X.K (G.ca c) ∧ (PySem.W.clsIn G.X.K (G.ca c)).isSome = true) (hv2 : ∀ u, RelV v2 u → u = cv) (hz : Zc cls d oe) (hd : ∃ vs, oe.data = .fields vs)
    (he : PE (G.X.suite a ((a, oe) :: pn)) e (tVar i)) (he2 : PE (G.X.suite a ((a, oe) :: pn)) e2 (tC v2)) (hg : Gl (G.X.suite a ((a, oe) :: pn)) "isinstance") (hm : G.X.mg "isinstance" = none)
    (hs1 : starEach (e :: [e2]) G.X.env = (false, eval e G.X.env) :: starEach [e2] G.X.env := by exact starEach_ns rfl) (hs2 : starEach (e2 :: []) G.X.env = (false, eval e2 G.X.env) :: starEach [] G.X.env := by exact starEach_ns rfl) (hpl : (backTo pos (starEach [e2] G.X.env)).any (·.1) = false := by exact plain_ns rfl) :
    RE (G.su a oe cls d pn) (.Call (.Name "isinstance" p) [e, e2] [] pos) (eIsX (subL l) i) := by
  refine re_isX (p1 := p) (sub := subL l) (fun c hc => ?_) (fun c b hb => (h c b hb).1) hv2 hz hd he he2 hg hm hs1 hs2 hpl
  obtain ⟨b, hb⟩ := Option.isSome_iff_exists.mp hc
  exact (h c b hb).2
end
theorem rs_raiseE {G : Gx} {k c : Nat} {fI : Addr} {fd : FuncData} {ps : List Str} {x : Str} {e : Expr} {es : List Expr} {aa : AM} {fs : List Str} {p pos pos2 : Pos} (hc : G.X.calm = true) (tk : Takes G.X G.E) (T : OexC G.X.K (G.ca c)) (iC : PySem.W.findIn G.X.K (.ref (G.ca c)) "__init__" = some (some (.ref fI))) (tI : PySem.W.typeIn G.X.K (.ref fI) = some (.type "function"))
    (F : FnOk G.X.prog G.X.w G.X.K G.X.mg G.X.base (L2.CX G.X.prog G.X.w) k fI fd ps (spX (G.ca c) fs)) (hr : Room (k + 1) G.X.A) (hb : BD G.X.K fd ps []) (hg : Gl G.X x) (hm : G.X.mg x = some (.ref (G.ca c))) (ha : RA G (e :: es) aa) (hl : fs.length ≤ 1000)
    (hdb : (x == ("__debug__" : Str)) = false := by decide) (he : starEach (e :: es) G.X.env = (false, eval e G.X.env) :: starEach es G.X.env := by exact starEach_ns rfl) (hpl : (backTo pos (starEach es G.X.env)).any (·.1) = false := by exact plain_ns rfl) :
    RS G (.Raise (some (.Call (.Name x p) (e :: es) [] pos)) none pos2) (sRaise c fs.length fs aa) := rs_raise hc tk T iC tI F hr hb.b0 hg hm ha hl hdb he hpl
theorem rt_w {G : Gx} {e : Expr} {m : TM} (h : RW G e m) : RT G e m := h.t
theorem rv_ref {A : Addr} : ∀ u, RelV (.ref A) u → u = .ref A := fun _ h => h
theorem rv_ty {n : String} : ∀ u, RelV (.ty n) u → u = .type n := fun _ h => h
end Mi
/-! MiMore: chains of comparisons, constants of the module, list(), tuple(), min, max. -/
namespace Mi
open PySem PySem.Spec PyProof.Rows L2 ClX
section
variable {G : Gx} {a b c e : Expr} {ma mb mc : EM} {f f' : D → D → M D} {t : D → M Bool} {pos : Pos} {op op' : CmpOp}
def kCh (f' : D → D → M D) (c : EM) (env : En) (y z : D) : M D := fun s => match z with
  | .bl true => (c env s).bind (f' y)
  | .bl false => .ok (.bl false) s
  | _ => .bad
def eChain (f f' : D → D → M D) (a b c : EM) : EM := fun env st => (a env st).bind fun x s1 => (b env s1).bind fun y s2 => (f x y s2).bind (kCh f' c env y)
theorem re_chain (ho : OpD G (compareOp op) f) (ho' : OpD G (compareOp op') f') (ha : RE G a ma) (hb : RE G b mb) (hc : RE G c mc) (hm : lastMarks [op, op'] [b, c] = false := by with_unfolding_all rfl) : RE G (.Compare a [op, op'] [b, c] pos) (eChain f f' ma mb mc) := by
  intro σ W env st Q w re p pins s I
  refine Compare_chain (thn (ha σ W env st (fun x H1 => QE G b σ H1 fun y H2 => QO G (compareOp op) σ x y H2 fun z H3 => ∃ k, z = .bl k ∧ if k = true then QE G c σ H3 fun w' H4 => QO G (compareOp op') σ y w' H4 Q else Q (.bl false) H3) w re (bindEE p fun dx s1 x W1 e1 w1 r1 p1 => ?_) pins s I) fun v s1 hv => ?_) hm
  · refine hb σ W1 env s1 _ w1 (re.mono e1) (bindEE p1 fun dy s2 y W2 e2 w2 r2 p2 => ?_)
    refine ho σ W2 s2 x y dx dy _ w2 (r1.mono e2) r2 (bindEE p2 fun dz s3 z W3 e3 w3 r3 p3 => ?_)
    cases r3 with
    | bl k =>
      refine ⟨k, rfl, ?_⟩
      cases k with
      | false => rw [if_neg Bool.false_ne_true]; exact p3 _ W3 (Ext.refl W3) w3 (.bl _)
      | true =>
        rw [if_pos rfl]
        refine hc σ W3 env s3 _ w3 (((re.mono e1).mono e2).mono e3) (bindEE p3 fun dw s4 w' W4 e4 w4 r4 p4 => ?_)
        exact ho' σ W4 s4 y w' dy dw _ w4 ((r2.mono e3).mono e4) r4 p4
    | _ => exact p3.elim
  · obtain ⟨x, H1, I1, r1, q1⟩ := hv
    refine chain_link (thn (q1 pins s1 I1) fun u s2 ⟨y, H2, I2, r2, q2⟩ => thn (q2 pins s2 v u I2 r1 r2) fun d s3 ⟨z, H3, I3, r3, k, e, q3⟩ => ?_)
    subst e
    cases r3
    refine wpAny_truthy_bool ?_
    cases k with
    | false => rw [if_neg Bool.false_ne_true] at q3; exact ite_ff ⟨.bl false, H3, I3, rfl, q3⟩
    | true => rw [if_pos rfl] at q3; exact ite_tt (chain_last (thn (q3 pins s3 I3) fun w' s4 ⟨z', H4, I4, r4, q4⟩ => q4 pins s4 u w' I4 r2 r4))
def kChT (f' : D → D → M D) (t : D → M Bool) (c : EM) (env : En) (y z : D) : M Bool := fun s => match z with
  | .bl true => ((c env s).bind (f' y)).bind t
  | .bl false => .ok false s
  | _ => .bad
def tChainM (f f' : D → D → M D) (t : D → M Bool) (a b c : EM) : TM := fun env st => (a env st).bind fun x s1 => (b env s1).bind fun y s2 => (f x y s2).bind (kChT f' t c env y)
theorem rt_chain (ht : TrD G t) (ho : OpD G (compareOp op) f) (ho' : OpD G (compareOp op') f') (ha : RE G a ma) (hb : RE G b mb) (hc : RE G c mc) (hm : lastMarks [op, op'] [b, c] = false := by with_unfolding_all rfl) : RT G (.Compare a [op, op'] [b, c] pos) (tChainM f f' t ma mb mc) := by
  intro σ W env st Q w re p pins s I
  refine isTrue_chain (thn (ha σ W env st (fun x H1 => QE G b σ H1 fun y H2 => QO G (compareOp op) σ x y H2 fun z H3 => ∃ k, z = .bl k ∧ if k = true then QE G c σ H3 fun w' H4 => QO G (compareOp op') σ y w' H4 fun z2 H5 => QTr G σ z2 H5 Q else Q false H3) w re (bindET p fun dx s1 x W1 e1 w1 r1 p1 => ?_) pins s I) fun v s1 hv => ?_) hm
  · refine hb σ W1 env s1 _ w1 (re.mono e1) (bindET p1 fun dy s2 y W2 e2 w2 r2 p2 => ?_)
    refine ho σ W2 s2 x y dx dy _ w2 (r1.mono e2) r2 (bindET p2 fun dz s3 z W3 e3 w3 r3 p3 => ?_)
    cases r3 with
    | bl k =>
      refine ⟨k, rfl, ?_⟩
      cases k with
      | false => rw [if_neg Bool.false_ne_true]; exact p3 W3 (Ext.refl W3) w3
      | true =>
        rw [if_pos rfl]
        have p3 : PostT G W3 σ (((mc env s3).bind (f' dy)).bind t) Q := p3
        have p3' : Post G W3 σ ((mc env s3).bind (f' dy)) (fun z2 H5 => QTr G σ z2 H5 Q) := bindET p3 fun d s4 v W4 e4 w4 r4 p4 => ht σ W4 s4 v d Q w4 r4 p4
        refine hc σ W3 env s3 _ w3 (((re.mono e1).mono e2).mono e3) (bindEE p3' fun dw s4 w' W4 e4 w4 r4 p4 => ?_)
        exact ho' σ W4 s4 y w' dy dw _ w4 ((r2.mono e3).mono e4) r4 p4
    | _ => exact p3.elim
  · obtain ⟨x, H1, I1, r1, q1⟩ := hv
    refine test_link (thn (q1 pins s1 I1) fun u s2 ⟨y, H2, I2, r2, q2⟩ => thn (q2 pins s2 v u I2 r1 r2) fun d s3 ⟨z, H3, I3, r3, k, e, q3⟩ => ?_)
    subst e
    cases r3
    refine wpAny_truthy_bool ?_
    cases k with
    | false => rw [if_neg Bool.false_ne_true] at q3; exact ite_ff ⟨H3, I3, q3⟩
    | true => rw [if_pos rfl] at q3; exact ite_tt (test_last (thn (q3 pins s3 I3) fun w' s4 ⟨z', H4, I4, r4, q4⟩ => thn (q4 pins s4 u w' I4 r2 r4) fun d' s5 ⟨z2, H5, I5, r5, q5⟩ => q5 pins s5 d' I5 r5))
/-! ### constants of the module -/
theorem re_gcon {x : Str} {v : V} {d : D} (hg : Gl G.X x) (h : ∃ u, G.X.mg x = some u ∧ RelV v u) (rd : ∀ W, Rep G.X.K G.ca W v d) (hd : (x == ("__debug__" : Str)) = false := by decide) : RE G (.Name x pos) (eC d) := by
  obtain ⟨u, h1, h2⟩ := h
  exact re_c (pe_glob hg h1 h2 hd) rd
/-! ### list(x), tuple(x) -/
def seqT (d : D) (st : Sto) : Option (List D) := match d with
  | .tup ds => some ds
  | d => seqOf d st
theorem seqT_at {K : PySem.W.Frag} {ca : Nat → Addr} {W : Wd} {st : Sto} {x : V} {d : D} {ds : List D} (wk : WOk K ca W st) (r : Rep K ca W x d) (h : seqT d st = some ds) : ∃ p xs, x = .ref p ∧ (SqL K W.h p xs ∨ SqT K W.h p xs) ∧ Reps K ca W xs ds := by
  have fin : seqOf d st = some ds → ∃ p xs, x = .ref p ∧ (SqL K W.h p xs ∨ SqT K W.h p xs) ∧ Reps K ca W xs ds := fun h => by
    obtain ⟨p, xs, h1, h2, h3⟩ := seqOf_at wk r h
    exact ⟨p, xs, h1, .inl h2, h3⟩
  cases d with
  | tup es =>
    cases h
    obtain ⟨p, xs, h1, h2, h3⟩ := r.sqT
    exact ⟨p, xs, h1, .inr h2, h3⟩
  | _ => exact fin h
def listD : List D → M (List D) := fun ds st => match ds with
  | [x] => (match seqT x st with
    | some xs => .ok xs st
    | none => .bad)
  | _ => .bad
theorem kl_list : CallL G (.type "list") listD := by
  intro σ W st xs ds Q wk r p
  match ds, r with
  | [d], .cons r1 .nil =>
    unfold listD at p
    dsimp only at p
    cases h : seqT d st with
    | none => rw [h] at p; exact p.elim
    | some es =>
      rw [h] at p
      obtain ⟨q, ys, rfl, hq, hr⟩ := seqT_at wk r1 h
      refine qc_of call_list_of ⟨q, ys, rfl, hq, fun l hl => ?_⟩
      have hp : (W.lay l (.lst ys) hl).h l ≠ none := by
        show upd W.h l (.lst ys) l ≠ none
        rw [upd_same]; exact fun z => by cases z
      have x := Wd.own_ext (W.lay_ext (o := .lst ys) hl) hl hp
      exact p l ys ((W.lay l (.lst ys) hl).own l hp) x hl (.inr rfl) (fun z => W.trk l (W.gav l z) hl) upd_same (wk.own hl hp) (hr.mono x)
  | [], .nil => exact p.elim
  | _ :: _ :: _, _ => exact p.elim
def tupD : List D → M D := fun ds st => match ds with
  | [x] => (match seqT x st with
    | some xs => .ok (.tup xs) st
    | none => .bad)
  | _ => .bad
theorem kd_tuple : CallD G (.type "tuple") tupD := by
  intro σ W st xs ds Q wk r p
  match ds, r with
  | [d], .cons r1 .nil =>
    unfold tupD at p
    dsimp only at p
    cases h : seqT d st with
    | none => rw [h] at p; exact p.elim
    | some es =>
      rw [h] at p
      rename_i v
      have fin : seqOf d st = some es → QC G (.type "tuple") σ [v] W.h Q := fun h => by
        obtain ⟨q, ys, rfl, hq, hr⟩ := seqOf_at wk r1 h
        refine qc_of call_tuple_of ⟨q, ys, rfl, .inl ⟨hq, fun l hl => ?_⟩⟩
        exact p (.ref l) (W.lay l (.tup ys) hl) (W.lay_ext hl) (wk.lay hl) (.tup (W.lay_nav hl) (.inl upd_same) (hr.mono (W.lay_ext hl)))
      cases d with
      | tup fs =>
        cases h
        obtain ⟨q, ys, rfl, hq, hr⟩ := r1.sqT
        exact qc_of call_tuple_of ⟨q, ys, rfl, .inr ⟨hq, p (.ref q) W (Ext.refl W) wk r1⟩⟩
      | _ => exact fin h
  | [], .nil => exact p.elim
  | _ :: _ :: _, _ => exact p.elim
end
end Mi
/-! MiMore2: unpacking, min, max, enumerate, zip. -/
namespace Mi
open PySem PySem.Spec PyProof.Rows L2 ClX
section
variable {G : Gx} {a b c e tg : Expr} {es : List Expr} {ma mb mc : EM} {aa : AM} {pos p tpos : Pos} {js : List Nat} {mt : TgM}
/-- a, b = e -/
def kUnp (tg : TgM) (env : En) (d : D) (s : Sto) : SRes := match tg d env with
  | some env' => .nx env' s
  | none => .bad
def sUnp (tg : TgM) (a : EM) : SM := fun env st => (a env st).go env (kUnp tg env)
theorem rs_unp (ha : RE G e ma) (hg : RG G tg js mt) (hs : swapsWithSole [tg] e pos.line G.X.env = pure false := by rfl) (hw : swappedStores [tg] e G.X.env = pure none := by rfl)
    (h1 : (assignEach [tg] G.X.env).map (·.2) = [assign tg G.X.env] := by rfl) : RS G (.Assign [tg] e pos) (sUnp mt ma) := by
  intro σ W env st Dn w re p
  refine qs_of (ps_asg pe_q pg_q hs hw h1) ?_
  refine ha σ W env st _ w re (bindES re p fun d s1 v W1 e1 w1 r1 re1 p1 => ?_)
  show QG G tg v σ W1.h Dn.nx
  refine hg σ W1 env v d Dn.nx re1 r1 ?_
  unfold kUnp at p1
  cases h : mt d env with
  | none => rw [h] at p1; exact p1.elim
  | some env' => rw [h] at p1; exact fun σ' _ x re' => p1 σ' W1 x w1 re'
/-! ### min, max of two ints -/
def maxD : List D → M D := fun ds st => match ds with
  | [.int i, .int j] => .ok (.int (if j > i then j else i)) st
  | _ => .bad
theorem kd_max (hc : G.X.calm = true) : CallD G (.builtin "max") maxD := by
  intro σ W st xs ds Q wk r p
  unfold maxD at p
  split at p
  · rename_i i j
    match r with
    | .cons (.int _) (.cons (.int _) .nil) => exact qc_of (call_max2 hc) ⟨i, j, rfl, p _ W (Ext.refl W) wk (.int _)⟩
  · exact p.elim
def minD : List D → M D := fun ds st => match ds with
  | [.int i, .int j] => .ok (.int (if j < i then j else i)) st
  | _ => .bad
theorem kd_min (hc : G.X.calm = true) : CallD G (.builtin "min") minD := by
  intro σ W st xs ds Q wk r p
  unfold minD at p
  split at p
  · rename_i i j
    match r with
    | .cons (.int _) (.cons (.int _) .nil) => exact qc_of (call_min2 hc) ⟨i, j, rfl, p _ W (Ext.refl W) wk (.int _)⟩
  · exact p.elim
/-! ### enumerate -/
def enumL : Nat → List D → List D
  | _, [] => []
  | n, d :: ds => .tup [.int (n : Int), d] :: enumL (n + 1) ds
theorem enumL_len : ∀ (n : Nat) (ds : List D), (enumL n ds).length = ds.length
  | _, [] => rfl
  | n, d :: ds => by rw [enumL, List.length_cons, List.length_cons, enumL_len (n + 1) ds]
theorem enumL_get : ∀ (n : Nat) (ds : List D) (i : Nat) (x : D), (enumL n ds)[i]? = some x → ∃ d, ds[i]? = some d ∧ x = .tup [.int ((n + i : Nat) : Int), d]
  | _, [], i, x, h => by simp [enumL] at h
  | n, d :: ds, 0, x, h => by
    simp [enumL] at h
    exact ⟨d, rfl, h.symm⟩
  | n, d :: ds, i + 1, x, h => by
    rw [enumL, List.getElem?_cons_succ] at h
    obtain ⟨d', h1, h2⟩ := enumL_get (n + 1) ds i x h
    exact ⟨d', by rw [List.getElem?_cons_succ]; exact h1, by rw [h2]; congr 3; omega⟩
theorem jok_enum {K : PySem.W.Frag} {ca : Nat → Addr} {W : Wd} {q : Addr} {xs : List V} {ds : List D} (h : ∀ W', Kp W W' → SqL K W'.h q xs) (r : Reps K ca W xs ds) : JOk K ca W (Ite K q) (enumL 0 ds) := by
  intro W' st' k w'
  have hq := h W' k
  refine ⟨fun i d hi => ?_, xs, hq, by rw [enumL_len, r.length]; exact Nat.le_refl _⟩
  obtain ⟨d0, h1, rfl⟩ := enumL_get 0 ds i d hi
  obtain ⟨v, h2, h3⟩ := r.get h1
  refine ⟨⟨xs, v, hq, h2⟩, fun x H' y => ?_⟩
  obtain ⟨T, x', rfl, hT, rfl, hx⟩ := y
  have ex : x' = v := by
    have := (hx xs hq).symm.trans h2
    exact Option.some.inj this
  subst ex
  refine ⟨W'.lay T (.tup [.int ((i : Nat) : Int), x']) hT, rfl, W'.lay_ext hT, w'.lay hT, ?_⟩
  rw [Nat.zero_add]
  exact .tup (W'.lay_nav hT) (.inl upd_same) (.cons (.int _) (.cons ((h3.kp k).mono (W'.lay_ext hT)) .nil))
def kEnum (ds : List D) : M (List D) := fun s => match ds with
  | [.lst xs] => .ok (enumL 0 xs) s
  | [.fix xs] => .ok (enumL 0 xs) s
  | _ => .bad
def iEnumM (a : AM) : AM := fun env st => (a env st).bind kEnum
theorem ri_enum {elts : List Expr} {kk : Nat} (hg : Gl G.X "enumerate") (hm : G.X.mg "enumerate" = none) (ha : RA G [a] aa) (hs : starEach [a] G.X.env = [(false, eval a G.X.env)] := by exact starEach_ns rfl) : RI G (.Tuple elts kk tpos) (.Call (.Name "enumerate" p) [a] [] pos) (iEnumM aa) := by
  intro σ W env st R wk re hp
  refine qi_of (pi_enum hg hm pa_q hs) ?_
  refine ha σ W env st _ wk re (bindAI hp fun ds s1 vs W1 e1 w1 r1 p1 => ?_)
  unfold kEnum at p1
  split at p1
  · match r1 with
    | .cons r .nil =>
      obtain ⟨q, ys, rfl, nq, hq, rr⟩ := r.atL
      exact ⟨q, ys, rfl, .inl (.inl hq), p1 _ W1 (Ext.refl W1) w1 (jok_enum (fun W' k => .inl (.inl (k.keep _ _ nq hq))) rr)⟩
  · match r1 with
    | .cons r .nil =>
      cases r with
      | fix n hh rr => exact ⟨_, _, rfl, .inl hh, p1 _ W1 (Ext.refl W1) w1 (jok_enum (fun W' k => .inl (k.kw.rd n hh).2) rr)⟩
      | fixK hh rr => exact ⟨_, _, rfl, hh.sq, p1 _ W1 (Ext.refl W1) w1 (jok_enum (fun W' k => hh.sq) rr)⟩
  · exact p1.elim
end
end Mi
/-! MiWarm: defs that may be called while an exception is handled, too. -/
namespace Mi
open PySem PySem.Spec PyProof.Rows L2 L2H
/-- a def's promise that holds wherever it is called -/
structure FnW (P : Program) (w : World) (K : PySem.W.Frag) (mg : Str → Option Value) (base : Heap) (k : Nat) (f : Addr) (fd : FuncData) (ps : List Str) (sp : Sp) : Prop where
  len : ∀ vs H Q E, sp vs H Q E → vs.length = ps.length
  run : ∀ (A : Around) (outer : List Env) (s : Shared) (H : Hp) (args : Args) (us : List Value) (vs : List V) (Q : VK) (E : XK), RoomH k A → Env0 P w K mg base A outer s H → BindsTo s fd args (ps.zip us) → Vals vs us → sp vs H Q E →
    codeAny (model P w) A (.call (.ref f) args) (CR (L2.CX P w) outer P w H s Q E) s
theorem FnW.ok {P : Program} {w : World} {K : PySem.W.Frag} {mg : Str → Option Value} {base : Heap} {k : Nat} {f : Addr} {fd : FuncData} {ps : List Str} {sp : Sp} (F : FnW P w K mg base k f fd ps sp) : FnOk P w K mg base (L2.CX P w) k f fd ps sp :=
  ⟨F.len, fun A outer s H args us vs Q E hr e0 hb r hsp => F.run A outer s H args us vs Q E (roomH_of hr) e0 hb r hsp⟩
def cxW (P : Program) (w : World) (K : PySem.W.Frag) (mg : Str → Option Value) (base : Heap) (N : List Str) (qual : Str) (sc : Scope) (f : Addr) (cd : Value) (A : Around) (outer : List Env) (s : Shared) (H : Hp) (E : XK) : Cx :=
  { cxOf (L2.CX P w) P w K mg base N qual sc f cd A outer s H E with calm := false }
theorem inv_startW {P : Program} {w : World} {K : PySem.W.Frag} {mg : Str → Option Value} {base : Heap} {N ps : List Str} {qual : Str} {sc : Scope} {f : Addr} {cd : Value} {A : Around} {outer : List Env} {s t1 : Shared} {H : Hp} {E : XK} {us : List Value} {vs : List V}
    (S : FnScope N ps sc) (e0 : Env0 P w K mg base A outer s H) (hl : vs.length = ps.length) (r : Vals vs us)
    (ic : InCallC s s.heap.objs.size (bindL (envOfC qual sc s.heap.objs.size f cd).kindOf (ps.zip us) fun _ => none) (cellsFrom (s.heap.objs.size + 1) sc.names []) (bindC (envOfC qual sc s.heap.objs.size f cd).kindOf (ps.zip us) fun _ => none) t1) :
    Inv (cxW P w K mg base N qual sc f cd A outer s H E) [] (L2.start N vs) H t1 := by
  have hpl : ps.length ≤ N.length := by have q := congrArg List.length S.pre; rw [List.length_take] at q; omega
  obtain ⟨h1, tk, rfl, hk⟩ := ic.done
  have nx : ∀ b : Addr, b ∉ (cxW P w K mg base N qual sc f cd A outer s H E).ex := fun b z => absurd (show b ∈ ([] : List Addr) from z) (by simp)
  refine ⟨⟨e0.mod, S.kind, rfl, rfl, Nat.le_refl _, fun y z c q1 q2 => ?_, fun y hy => ?_, fun y c _ q => ?_, (fun z => Bool.noConfusion (show false = true from z)), Around.frames_deeper e0.frames, .inr ⟨rfl, rfl⟩, fun b z => absurd z (nx b), e0.bs, e0.bsz, fun b _ _ => nx b, fun b z => absurd z (nx b), e0.funs, e0.frf⟩,
    rfl, e0.bare, Un.kept hk, ⟨_, ic.toInCall.ns, fun i y v q1 q2 q3 => ?_⟩, fun y c q => ⟨_, ic.cell y c q⟩, e0.hok.fresh (Nat.le_refl _), fun y c q => ?_, fun q hq => ?_, e0.hok.kept hk, ?_⟩
  · exact name_of_addr ic.apart (PySem.mem_of_lookup q1) (PySem.mem_of_lookup q2)
  · have hy : sc.names.lookup y = some .cell ∨ sc.names.lookup y = some .free := hy
    exact hy.elim (fun g => cell_has g) fun g => absurd rfl (S.nofree _ (PySem.mem_of_lookup g))
  · exact Nat.le_of_lt (ic.above y c (PySem.mem_of_lookup q))
  · have hi : i < vs.length := by
      unfold L2.start at q2
      by_cases g : i < vs.length
      · exact g
      · rw [List.getElem?_append_right (by simpa using g), List.getElem?_replicate] at q2
        split at q2 <;> cases q2
    have ha : vs[i]? = some v := by
      unfold L2.start at q2
      rw [List.getElem?_append_left (by simpa using hi), List.getElem?_map] at q2
      cases e : vs[i]? with
      | none => rw [e] at q2; cases q2
      | some a => rw [e] at q2; cases q2; rfl
    obtain ⟨u, hu, rv⟩ := r.get ha
    have hp : ps[i]? = some y := by rw [← S.pre, List.getElem?_take_of_lt (by omega)]; exact q1
    have ndP : ps.Nodup := by rw [← S.pre]; exact S.nd.sublist (List.take_sublist _ _)
    refine ⟨u, rv, ?_⟩
    rcases S.par y (List.mem_of_getElem? hp) with g | g
    · exact .inl ⟨g, bindL_get ndP hp hu g⟩
    · obtain ⟨c, e⟩ := cell_has (n := s.heap.objs.size + 1) g
      refine .inr ⟨.inl g, c, e, ?_⟩
      have z := ic.cell y c e
      rw [bindC_get ndP hp hu (by show sc.names.lookup y ≠ _; rw [g]; decide)] at z
      exact z
  · exact e0.hok.fresh (Nat.le_of_lt (ic.above y c (PySem.mem_of_lookup q)))
  · exact absurd (show q ∈ ([] : List (Addr × Obj)) ++ [] from hq) (by simp)
  · unfold L2.start
    show _ = N.length
    rw [List.length_append, List.length_map, List.length_replicate]
    omega
abbrev gxW (P : Program) (w : World) (K : PySem.W.Frag) (mg : Str → Option Value) (base : Heap) (ca : Nat → Addr) (N : List Str) (qual : Str) (sc : Scope) (f : Addr) (cdv : Value) (A : Around) (outer : List Env) (s : Shared) (H : Hp) (E : XK) : Gx where
  X := cxW P w K mg base N qual sc f cdv A outer s H E
  ca := ca
  E := fun c d _ H' => E c d H'
  xc := none
section
variable {P : Program} {w : World} {K : PySem.W.Frag} {mg : Str → Option Value} {base : Heap} {ca : Nat → Addr} {x qual : Str} {st : Stmt} {dvs : List V} {f : Addr} {fd : FuncData} {N ps : List Str} {k c : Nat} {b : SM}
theorem gxW_tk {sc : Scope} {cdv : Value} {A : Around} {outer : List Env} {s : Shared} {H : Hp} {E : XK} : Takes (gxW P w K mg base ca N qual sc f cdv A outer s H E).X (gxW P w K mg base ca N qual sc f cdv A outer s H E).E := takes_of rfl rfl rfl rfl
theorem fn_okW (F : FD K x qual st dvs f fd) (S : FnScope N ps (defScope st))
    (hb : ∀ (cdv : Value) (A : Around) (outer : List Env) (s : Shared) (H : Hp) (E : XK), RoomH k (A.deeper (envOfC qual (defScope st) s.heap.objs.size f cdv)) → RSs (gxW P w K mg base ca N qual (defScope st) f cdv A outer s H E) (defBody st) b) :
    FnW P w K mg base (k + 1) f fd ps (spM K ca ps.length (runBody N.length b)) := by
  obtain ⟨oc, od, dV, kV, doc, pm, an, cdv, ct, osl, rfl, lk, hcd, _, _⟩ := F.ex
  have len : ∀ vs H Q E, spM K ca ps.length (runBody N.length b) vs H Q E → vs.length = ps.length := fun vs H Q E h => by
    obtain ⟨W, sto, ds, _, _, r, hl, _⟩ := h
    rw [r.length, hl]
  refine ⟨len, fun A outer s H args us vs Q E hr e0 hbd r hsp => ?_⟩
  have hl := len _ _ _ _ hsp
  have KX : K.In s.heap := e0.mod.kin.keeps fun b o e => (e0.bs b o e).1
  have lim : s.heap.NoLimit := e0.mod.nolimit.keeps fun b o e => (e0.bs b o e).1
  have hkind : ∀ y ∈ ps.zip us, (defScope st).names.lookup y.1 = some .local ∨ ((defScope st).names.lookup y.1 = some .cell ∧ ((cellsFrom (s.heap.objs.size + 1) (defScope st).names []).lookup y.1).isSome = true) := fun ⟨n, v⟩ hy => by
    rcases S.par n (List.of_mem_zip hy).1 with q | q
    · exact .inl q
    · exact .inr ⟨q, PySem.W.cellsFrom_some _ _ _ (.inl q)⟩
  refine codeAny_call_function hr.depth (KX _ _ lk) rfl S.co S.gen rfl (PySem.W.codeRec_of KX hcd) (hbd _ _ _ _ ?_)
  refine wpAny_newFunctionEnv_cells S.kind hkind fun env he t1 ic => ?_
  subst he
  refine ⟨lim.keeps ic.toInCall.keep, codeAny_func ?_⟩
  have I : Inv (cxW P w K mg base N qual (defScope st) f cdv A outer s H E) [] (L2.start N vs) H t1 := inv_startW S e0 hl r ic
  obtain ⟨W, sto, ds, rfl, wk, rr, hl2, p⟩ := hsp
  have no : ∀ i p, ¬ Own (L2.start N vs) (env0 N.length ds) i p := fun i p => env0_own
  have run : QSs (gxW P w K mg base ca N qual (defScope st) f cdv A outer s W.h E) (defBody st) { nx := fun _ H' => Q .non H', rt := Q } (L2.start N vs) W.h := by
    refine hb cdv A outer s W.h E (hr.deeper _) (L2.start N vs) W (env0 N.length ds) sto _ wk (repE_start rr) ?_
    unfold runBody at p
    cases hm : b (env0 N.length ds) sto with
    | nx env' st' => rw [hm] at p; exact fun σ' W' x w' _ => p .non W' (x.ext no) w' .non
    | rt d st' => rw [hm] at p; exact fun v W' x w' r' => p v W' (x.ext no) w' r'
    | bk env' st' => rw [hm] at p; exact p.elim
    | ct env' st' => rw [hm] at p; exact p.elim
    | exc env' c fs st' => rw [hm] at p; exact fun σ' dd W' x w' _ rx => p dd W' (x.ext no) w' rx
    | bad => rw [hm] at p; exact p
  refine wpAny_mono (run [] t1 I) (fun fl s' hs => ?_) fun e s' hs => hs
  have fin : ∀ {σ' : L2.St} {H' : Hp} {v : V} {u : Value}, Inv (cxW P w K mg base N qual (defScope st) f cdv A outer s W.h E) [] σ' H' s' → RelV v u → Q v H' → CE outer P w W.h s Q u s' :=
    fun {σ' H' v u} J rv q => ⟨v, H', J.os, J.bare, J.base, J.hok, rv, q⟩
  cases fl with
  | ret u =>
    obtain ⟨v, σ', H', J, rv, q⟩ := hs
    exact fin J rv q
  | next =>
    obtain ⟨σ', H', J, q⟩ := hs
    exact fin (v := V.non) (u := Value.none) J rfl q
  | brk => obtain ⟨_, _, _, q⟩ := hs; exact q.elim
  | cont => obtain ⟨_, _, _, q⟩ := hs; exact q.elim
end
section
variable {G : Gx} {k n : Nat} {f : Addr} {fd : FuncData} {ps : List Str} {m : List D → M D} {dvs : List V} {dds : List D}
theorem call_defW (tk : Takes G.X G.E) (F : FnW G.X.prog G.X.w G.X.K G.X.mg G.X.base k f fd ps (spM G.X.K G.ca n m)) (hr : RoomH k G.X.A) (hb : BD G.X.K fd ps dvs) (rd : ∀ W, Reps G.X.K G.ca W dvs dds) : CallD G (.ref f) (mCall n dds m) := by
  obtain ⟨dvals, hd, hbd⟩ := hb
  intro σ W st vs ds Q wk r p
  unfold mCall at p
  split at p
  · rename_i hl
    intro pins s us I rv
    have r2 : Vals (vs ++ dvs) (us ++ dvals) := rv.append hd
    have h : spM G.X.K G.ca n m (vs ++ dvs) W.h Q (fun c d H' => G.E c d σ H') := ⟨W, st, ds ++ dds, rfl, wk, r.append (rd W), by rw [List.length_append]; exact hl, p⟩
    have hl2 : (us ++ dvals).length = ps.length := by
      rw [← r2.length]
      exact F.len _ _ _ _ h
    refine wpAny_call (codeAny_mono (F.run G.X.A G.X.stack s W.h ⟨us, []⟩ _ _ Q _ hr I.env0 (hbd s us I.kIn hl2) r2 h) fun res s' hq => ?_)
    cases res with
    | error ex => exact tk ex s' (XE.of_call I (fun _ _ _ z => z) hq)
    | ok fl =>
      cases fl with
      | ret u => exact I.after hq
      | next => exact hq.elim
      | brk => exact hq.elim
      | cont => exact hq.elim
  · exact p.elim
end
end Mi
/-! MiOwn2: lists that a slot owns or that a cell holds: append, item stores, pop, extend, clear, insert. -/
namespace Mi
open PySem PySem.Spec PyProof.Rows L2
/-- what goes on behind an append to slot i's own list -/
def kAppO (i : Nat) (ds : List D) (env : En) (d : D) (s : Sto) : SRes := if ds.length < LIM then .nx (env.set i (.oL (ds ++ [d]))) s else .bad
def sAppO (i : Nat) (a : EM) : SM := fun env st => match env[i]? with
  | some (.oL ds) => (a env st).go env (kAppO i ds env)
  | _ => .bad
section
variable {G : Gx} {o e ix : Expr} {i : Nat} {ma mo mi : EM} {pos apos cpos : Pos}
theorem rs_appO (ho : PE G.X o (tVar i)) (ha : RE G e ma)
    (hbase : attributeBase o "append" G.X.env (eval o G.X.env) = eval o G.X.env := by first | exact abase_ns rfl | rfl)
    (hfew : ((backTo cpos (starEach [e] G.X.env)).all (fun x => !x.1) && (backToKw cpos (keywordEach [] G.X.env)).all (fun x => x.1.isSome) && decide (([e] : List Expr).length + ([] : List Keyword).length + (if ([] : List Keyword).isEmpty then 0 else 1) < 30)) = true := by exact few_ns rfl rfl)
    (hline : (apos.endLine == cpos.line) = true := by rfl) (hs : starEach [e] G.X.env = (false, eval e G.X.env) :: starEach [] G.X.env := by exact starEach_ns rfl) (hplain : (backTo cpos (starEach [] G.X.env)).any (·.1) = false := by exact plain_ns rfl)
    (hsw : swapsWith (.Call (.Attribute o "append" apos) [e] [] cpos) none pos.line G.X.env = pure false := by first | exact swaps_ns rfl | rfl) :
    RS G (.Expr (.Call (.Attribute o "append" apos) [e] [] cpos) pos) (sAppO i ma) := by
  intro σ W env st Dn w re hp
  refine qs_of (ps_expr (pe_bm PySem.F.plainAttrs_list PySem.F.slot_list_append PySem.F.type_list_append mt_append ho (pa_cons pe_q pa_nil hs) hbase hfew hline hs hplain) hsw) ?_
  unfold sAppO at hp
  split at hp
  · rename_i ds hi
    obtain ⟨p, xs, h1, h2, h3, h4, h5⟩ := re.oL i ds hi
    refine ⟨.ref p, h1, .inl ⟨rfl, xs, .inl (.inl h4)⟩, ?_⟩
    refine ha σ W env st _ w re (bindES re hp fun d s1 v W1 e1 w1 r1 re1 p1 => ?_)
    unfold kAppO at p1
    by_cases hl : ds.length < LIM
    · rw [if_pos hl] at p1
      obtain ⟨p', xs', g1, g2, g3, g4, g5⟩ := re1.oL i ds hi
      have ep : p' = p := by rw [h1] at g1; cases g1; rfl
      subst ep
      have hne : W1.h p' ≠ none := by rw [g4]; exact fun z => by cases z
      refine ⟨p', xs', v, rfl, rfl, g4, lim_lt (by rw [g5.length]; exact hl), ?_⟩
      obtain ⟨a, b⟩ := own_wr (o := .lst (xs' ++ [v])) (s := .oL (ds ++ [d])) re1 ⟨g1, _, hi, rfl⟩ g3 hne g2 rfl (fun ds' e => by cases e; exact ⟨_, rfl, g5.append (.cons r1 .nil)⟩) (fun c fs e => by cases e)
      exact p1 σ (W1.wr p' (.lst (xs' ++ [v])) hne) b (w1.wr hne g2 g3) a
    · rw [if_neg hl] at p1; exact p1.elim
  · exact hp.elim
/-! x[j] = e, x slot i's own list -/
def kSetO (i : Nat) (ds : List D) (env : En) (d : D) (j : D) (s : Sto) : SRes := match j with
  | .int j => (match ixN ds.length j with
    | some k => .nx (env.set i (.oL (ds.set k d))) s
    | none => .bad)
  | _ => .bad
def kSetO1 (i : Nat) (b : EM) (ds : List D) (env : En) (d : D) (s : Sto) : SRes := (b env s).go env (kSetO i ds env d)
def sSetO (i : Nat) (b a : EM) : SM := fun env st => match env[i]? with
  | some (.oL ds) => (a env st).go env (kSetO1 i b ds env)
  | _ => .bad
theorem rs_setO (ho : PE G.X o (tVar i)) (hi : RE G ix mi) (ha : RE G e ma)
    (has : ∀ v, assign (.Subscript o ix apos) G.X.env v = (do
      let a ← holding [v] (eval o G.X.env)
      let b ← holding [v, a] (eval ix G.X.env)
      standAt apos
      holding [v, a, b] (setItem a b v)
      release [v, a, b] []) := by intro _; rfl)
    (hs : swapsWithSole [.Subscript o ix apos] e pos.line G.X.env = pure false := by rfl) (hw : swappedStores [.Subscript o ix apos] e G.X.env = pure none := by rfl)
    (h1 : (assignEach [.Subscript o ix apos] G.X.env).map (·.2) = [assign (.Subscript o ix apos) G.X.env] := by rfl) :
    RS G (.Assign [.Subscript o ix apos] e pos) (sSetO i mi ma) := by
  intro σ W env st Dn w re hp
  refine qs_of (ps_asg pe_q (pg_sub ho pe_q set_list has) hs hw h1) ?_
  unfold sSetO at hp
  split at hp
  · rename_i ds hds
    refine ha σ W env st _ w re (bindES re hp fun d s1 v W1 e1 w1 r1 re1 p1 => ?_)
    obtain ⟨p, xs, q1, q2, q3, q4, q5⟩ := re1.oL i ds hds
    refine ⟨.ref p, q1, ?_⟩
    refine hi σ W1 env s1 _ w1 re1 (bindES re1 p1 fun dj s2 vj W2 e2 w2 r2 re2 p2 => ?_)
    unfold kSetO at p2
    split at p2
    · rename_i j
      cases r2
      cases hk : ixN ds.length j with
      | none => rw [hk] at p2; exact p2.elim
      | some k =>
        rw [hk] at p2
        obtain ⟨p', xs', g1, g2, g3, g4, g5⟩ := re2.oL i ds hds
        have ep : p' = p := by rw [q1] at g1; cases g1; rfl
        subst ep
        have hne : W2.h p' ≠ none := by rw [g4]; exact fun z => by cases z
        refine ⟨p', xs', j, k, rfl, rfl, g4, by rw [g5.length]; exact hk, ?_⟩
        obtain ⟨a, b⟩ := own_wr (o := .lst (xs'.set k v)) (s := .oL (ds.set k d)) re2 ⟨g1, _, hds, rfl⟩ g3 hne g2 rfl (fun ds' e => by cases e; exact ⟨_, rfl, g5.set (r1.mono e2) k⟩) (fun c fs e => by cases e)
        exact p2 σ (W2.wr p' (.lst (xs'.set k v)) hne) b (w2.wr hne g2 g3) a
    · exact p2.elim
  · exact hp.elim
/-! x[j] = e, x a cell's list -/
def kSetC2 (env : En) (d x : D) (j : D) (s : Sto) : SRes := match x, j with
  | .cell n, .int j => (match s[n]? with
    | some (.lst ds) => (match ixN ds.length j with
      | some k => .nx env (s.set n (.lst (ds.set k d)))
      | none => .bad)
    | _ => .bad)
  | _, _ => .bad
def kSetC1 (b : EM) (env : En) (d x : D) (s : Sto) : SRes := (b env s).go env (kSetC2 env d x)
def kSetC (o b : EM) (env : En) (d : D) (s : Sto) : SRes := (o env s).go env (kSetC1 b env d)
def sSetC (o b a : EM) : SM := fun env st => (a env st).go env (kSetC o b env)
theorem rs_setC (ho : RE G o mo) (hi : RE G ix mi) (ha : RE G e ma)
    (has : ∀ v, assign (.Subscript o ix apos) G.X.env v = (do
      let a ← holding [v] (eval o G.X.env)
      let b ← holding [v, a] (eval ix G.X.env)
      standAt apos
      holding [v, a, b] (setItem a b v)
      release [v, a, b] []) := by intro _; rfl)
    (hs : swapsWithSole [.Subscript o ix apos] e pos.line G.X.env = pure false := by rfl) (hw : swappedStores [.Subscript o ix apos] e G.X.env = pure none := by rfl)
    (h1 : (assignEach [.Subscript o ix apos] G.X.env).map (·.2) = [assign (.Subscript o ix apos) G.X.env] := by rfl) :
    RS G (.Assign [.Subscript o ix apos] e pos) (sSetC mo mi ma) := by
  intro σ W env st Dn w re hp
  refine qs_of (ps_asg pe_q (pg_sub pe_q pe_q set_list has) hs hw h1) ?_
  refine ha σ W env st _ w re (bindES re hp fun d s1 v W1 e1 w1 r1 re1 p1 => ?_)
  refine ho σ W1 env s1 _ w1 re1 (bindES re1 p1 fun dx s2 vx W2 e2 w2 r2 re2 p2 => ?_)
  refine hi σ W2 env s2 _ w2 re2 (bindES re2 p2 fun dj s3 vj W3 e3 w3 r3 re3 p3 => ?_)
  have r2' := r2.mono e3
  unfold kSetC2 at p3
  split at p3
  · rename_i n j
    cases r3
    cases r2' with
    | cell hg =>
      rename_i q
      cases hsn : s3[n]? with
      | none => rw [hsn] at p3; exact p3.elim
      | some c =>
        rw [hsn] at p3
        cases c with
        | lst ds =>
          dsimp only at p3
          cases hk : ixN ds.length j with
          | none => rw [hk] at p3; exact p3.elim
          | some k =>
            rw [hk] at p3
            obtain ⟨ys, g1, g2⟩ := w3.cell n q _ hg hsn
            have hne : W3.h q ≠ none := by rw [g1]; exact fun z => by cases z
            have kk := W3.wr_kp (o := .lst (ys.set k v)) hne (W3.gav q (List.mem_of_getElem? hg))
            obtain ⟨x1, y1⟩ := cell_wr (o := .lst (ys.set k v)) (c := .lst (ds.set k d)) w3 hg hne ⟨_, upd_same, (g2.kp kk).set ((((r1.mono e2).mono e3)).kp kk) k⟩
            exact ⟨q, ys, j, k, rfl, rfl, g1, by rw [g2.length]; exact hk, p3 σ _ (x1.s σ env) y1 (re3.mono x1)⟩
        | ins _ _ => exact p3.elim
        | dk _ => exact p3.elim
        | tab _ _ => exact p3.elim
  · exact p3.elim
end
end Mi
/-! MiTry: try with any clauses, named or not, and else. -/
namespace Mi
open PySem PySem.Spec PyProof.Rows L2
abbrev Cls3 := Value × Option Nat × (Addr → Value → Option Addr → TS)
def endS (i : Option Nat) (D : Ends) : Ends := match i with
  | none => D
  | some i => { nx := fun σ H => D.nx (σ.set i none) H, rt := D.rt, bk := fun σ H => D.bk (σ.set i none) H, ct := fun σ H => D.ct (σ.set i none) H }
def namS (i : Option Nat) (a : Addr) (σ : L2.St) : L2.St := match i with
  | none => σ
  | some i => σ.set i (some (.ref a))
def wGen (K : PySem.W.Frag) (Wout : WX) (D : Ends) : List Cls3 → WX
  | [] => Wout
  | (c, i, ts) :: r => fun cls d σ H => ∃ b, PySem.W.exmOne K cls c = some b ∧ (b = true → ∀ a, H a = none → ts a cls d (endS i D) (namS i a σ) H) ∧ (b = false → wGen K Wout D r cls d σ H)
inductive HdsG (X : Cx) : List ExceptHandler → List Cls3 → Prop
  | nil : HdsG X [] []
  | one {x : Str} {c : Value} {ts : Addr → Value → Option Addr → TS} {b₀ : Stmt} {suite : List Stmt} {np pos' : Pos} {hds : List ExceptHandler} {l : List Cls3} (hc : Names X x c)
      (hsu : ∀ (a : Addr) (oe : Obj) (cls : Value) (d : Option Addr) (pn : List (Addr × Obj)), Zc cls d oe → (∃ vs, oe.data = .fields vs) → PSs (X.suite a ((a, oe) :: pn)) (b₀ :: suite) (ts a cls d)) (r : HdsG X hds l) :
      HdsG X (.ExceptHandler (some (.Name x np)) none (b₀ :: suite) pos' :: hds) ((c, none, ts) :: l)
  | as {x n : Str} {i : Nat} {c : Value} {ts : Addr → Value → Option Addr → TS} {b₀ : Stmt} {suite : List Stmt} {np pos' : Pos} {hds : List ExceptHandler} {l : List Cls3} (hN : X.N.Nodup) (hi : X.N[i]? = some n) (hln : X.env.kindOf n = some .local) (hc : Names X x c)
      (hsu : ∀ (a : Addr) (oe : Obj) (cls : Value) (d : Option Addr) (pn : List (Addr × Obj)), Zc cls d oe → (∃ vs, oe.data = .fields vs) → PSs (X.suite a ((a, oe) :: pn)) (b₀ :: suite) (ts a cls d)) (r : HdsG X hds l) :
      HdsG X (.ExceptHandler (some (.Name x np)) (some n) (b₀ :: suite) pos' :: hds) ((c, some i, ts) :: l)
section
variable {X : Cx} {body : List Stmt} {h₀ : ExceptHandler} {hds : List ExceptHandler} {l : List Cls3} {pos : Pos} {tb : WX → TS} {Wout : WX}
theorem ps_try_gen {orelse : List Stmt} {u : TS} (ho : PSs X orelse u) (hst : X.stack = X.env :: X.outer) (hf : X.env.frame = some X.env.locals) (tk : Takes X Wout)
    (hb : ∀ (Wt : WX) (pn : List (Addr × Obj)) (xe : Value → Shared → Prop), Takes (X.tr pn xe) Wt → PassesOwn (model X.prog X.w) X.A X.env xe → PSs (X.tr pn xe) body (tb Wt))
    (hh : HdsG X (h₀ :: hds) l) : PS X (.Try body (h₀ :: hds) orelse [] pos) (fun D σ H => tb (wGen X.K Wout D l) { D with nx := u D } σ H) := by
  refine ⟨fun pins s σ H D I hwish => ?_⟩
  have ok := I.ok
  have frm : X.A.frames = some (X.env :: X.outer) := by rw [ok.frames, hst]
  refine wpAny_Try_except ?_
  refine wpAny_mono ((hb (wGen X.K Wout D l) (X.pn ++ pins) (fun ev t₁ => wpAny (model X.prog X.w) X.A (noteFrame ev X.env) (fun _ t₂ => wpAny (model X.prog X.w) X.A (setFlight ev none) (fun _ t₃ =>
    wpAny (model X.prog X.w) X.A (handleBy ev X.env (h₀ :: hds)) (SP X pins D) X.xe t₃) X.xe t₂) X.xe t₁) (fun ev t' caught => ?_) PassesOwn.looking).run [] s σ H { D with nx := u D } (I.toTry _) hwish) (fun fl t1 hsp => ?_) (fun _ _ z => z)
  · obtain ⟨a, B, sI, pins', σ', H', cls, d, rfl, Jt, nb, up, sky, na, os, ag, wish⟩ := caught
    have J : Inv X pins σ' H' sI := Jt.ofTry ok
    have skyl : Sky B (X.env :: X.outer) a (Zc cls d) X.env.locals t'.heap := by rw [← hst]; exact sky
    show wpAny (model X.prog X.w) X.A (noteFrame (.ref a) X.env) _ _ _
    refine Sky.land Zc.steady frm hf skyl fun hp3 fl3 up3 => ?_
    have L3 : Inv X pins σ' H' { t' with heap := hp3 } := J.landed nb fl3.1 (up.trans up3) os ag
    obtain ⟨ox3, ws3, hx3, hz3, hd3⟩ := fl3.there
    have offFr : ∀ {hp : Heap} {o : Obj} {vs : Array Value}, hp.FunFrames B (X.env :: X.outer) → hp.get? a = some o → o.data = .fields vs → a ∉ frs (X.env :: X.outer) := fun {hp o vs} ff e dd hm => by
      obtain ⟨_, o', e', hnf⟩ := ff.mem hm
      rw [e] at e'
      cases e'
      exact hnf _ dd
    have nfr := offFr fl3.2.2.1 hx3 hd3
    have aL : a ≠ X.env.locals := fun z => nfr (List.mem_filterMap.mpr ⟨X.env, List.mem_cons_self, by rw [hf, z]⟩)
    have aF : a ∉ X.fs := fun hm => by
      obtain ⟨e, he, q⟩ := List.mem_filterMap.mp hm
      exact nfr (List.mem_filterMap.mpr ⟨e, List.mem_cons_of_mem _ he, q⟩)
    have T3 := L3.suite hx3 hd3 na aL aF
    have test : ∀ {x : Str} {c : Value} {np : Pos}, Names X x c → ∀ {Q : Value → Shared → Prop} {E : Value → Shared → Prop}, Q c { t' with heap := hp3 } → wpAny (model X.prog X.w) (X.A.mark (some (.ref a))) (eval (.Name x np) X.env) Q E { t' with heap := hp3 } := fun {x c np} hc {Q E} q => by
      obtain ⟨hg, hdbg, hm | ⟨hm, hv, hnn⟩⟩ := hc
      · exact ld_glob (X := X.suite a ((a, ox3) :: (X.pn ++ pins))) T3 hg hm q hdbg
      · exact ld_blt (X := X.suite a ((a, ox3) :: (X.pn ++ pins))) T3 hg hm hv q hnn hdbg
    have tyL : PySem.W.Looks (model X.prog X.w) hp3 (typeOf (.ref a)) cls := fun A Q E s k q => wpAny_typeOf_ref (k _ _ hx3) (by rw [hz3.1]; exact q)
    have go : ∀ {hs' : List ExceptHandler} {l' : List Cls3}, HdsG X hs' l' → wGen X.K Wout D l' cls d σ' H' → wpAny (model X.prog X.w) X.A (handleBy (.ref a) X.env hs') (SP X pins D) X.xe { t' with heap := hp3 } := by
      intro hs' l' hk
      induction hk with
      | nil =>
        intro wsh
        refine wpAny_handleBy_nil ?_
        obtain ⟨_, _, _, oe, vs, T, oT, ts', he, hz, hd, g1, hr⟩ := id fl3
        unfold PySem.passOn
        refine wpAny_bind (wpAny_field he hd g1 ?_)
        rw [if_neg (show ¬ ((Value.ref T == Value.none) = true) from by simp)]
        have fin : wpAny (model X.prog X.w) X.A (setFlight (.ref a) X.env.frame) (fun _ t4 => wpAny (model X.prog X.w) X.A (throw (.ref a) : Sem Flow) (SP X pins D) X.xe t4) X.xe { t' with heap := hp3 } := by
          rw [hf]
          refine HandSPX.setFlight_upZ fl3 fun hp4 hh4 up4 => wpAny_throw (tk _ _ ?_)
          exact ⟨a, B, sI, pins, σ', H', cls, d, rfl, J, nb, (up.trans up3).trans up4, .inr (.inr (by rw [hst]; exact hh4)), na, os, ag, wsh⟩
        first
          | exact wpAny_bind (wpAny_pure (wpAny_bind fin))
          | exact wpAny_bind fin
      | @one x c ts b₀ suite np pos' hds2 l2 hc hsu r ih =>
        rintro ⟨b, hb1, hyes, hno⟩
        refine wpAny_handleBy_cons (codeAny_handlers_test ?_) (by intro q; cases q)
        have LM := PySem.W.exm_one (M := model X.prog X.w) (L3.kIn) tyL hb1
        refine test hc (LM.here ?_)
        cases b with
        | true =>
          refine codeAny_handlers_suite ?_
          refine HandSPX.lands_againZ fl3 fun hp4 fl4 up4 => ?_
          have L4 : Inv X pins σ' H' { t' with heap := hp4 } := J.landed nb fl4.1 ((up.trans up3).trans up4) os ag
          obtain ⟨ox4, ws4, hx4, hz4, hd4⟩ := fl4.there
          have T4 := L4.suite hx4 hd4 na aL aF
          refine wpAny_mono ((hsu a ox4 cls d (X.pn ++ pins) hz4 ⟨_, hd4⟩).run [] _ _ H' _ T4 (hyes rfl a na)) (fun fl t6 hsp => ?_) (fun _ _ z => z.elim)
          cases fl with
          | next => obtain ⟨σ6, H6, S6, q6⟩ := hsp; exact ⟨_, _, S6.unsuite ok, q6⟩
          | brk => obtain ⟨σ6, H6, S6, q6⟩ := hsp; exact ⟨_, _, S6.unsuite ok, q6⟩
          | cont => obtain ⟨σ6, H6, S6, q6⟩ := hsp; exact ⟨_, _, S6.unsuite ok, q6⟩
          | ret u => obtain ⟨v6, σ6, H6, S6, r6, q6⟩ := hsp; exact ⟨_, _, _, S6.unsuite ok, r6, q6⟩
        | false =>
          show wpAny _ X.A (handleBy (.ref a) X.env hds2) _ _ _
          exact ih (hno rfl)
      | @as x n i c ts b₀ suite np pos' hds2 l2 hN hi hln hc hsu r ih =>
        rintro ⟨b, hb1, hyes, hno⟩
        refine wpAny_handleBy_cons (codeAny_handlers_test ?_) (by intro q; cases q)
        have LM := PySem.W.exm_one (M := model X.prog X.w) (L3.kIn) tyL hb1
        refine test hc (LM.here ?_)
        cases b with
        | true =>
          refine codeAny_handlers_suite_as ?_
          refine HandSPX.lands_againZ fl3 fun hp4 fl4 up4 => ?_
          have L4 : Inv X pins σ' H' { t' with heap := hp4 } := J.landed nb fl4.1 ((up.trans up3).trans up4) os ag
          obtain ⟨ox4, ws4, hx4, hz4, hd4⟩ := fl4.there
          have T4 := L4.suite hx4 hd4 na aL aF
          refine store_ok (X := X.suite a ((a, ox4) :: (X.pn ++ pins))) (v := .ref a) T4 hN hi (.inl hln) rfl (fun t5 T5 => ?_) (.inr hln)
          refine wpAny_mono ((hsu a ox4 cls d (X.pn ++ pins) hz4 ⟨_, hd4⟩).run [] t5 _ H' _ T5 (hyes rfl a na)) (fun fl t6 hsp => ?_) (fun _ _ z => z.elim)
          have end_ : ∀ {σ6 : L2.St} {H6 : Hp} {Q : Shared → Prop}, Inv (X.suite a ((a, ox4) :: (X.pn ++ pins))) [] σ6 H6 t6 → (∀ t7, Inv X pins (σ6.set i none) H6 t7 → Q t7) →
              wpAny (model X.prog X.w) X.A (do bindName X.env n .none; unbindBehindTheSuite X.env n pos') (fun _ t7 => Q t7) X.xe t6 := fun {σ6 H6 Q} S6 hq => gone_ok (S6.unsuite ok) hN hi hln hq
          cases fl with
          | next => obtain ⟨σ6, H6, S6, q6⟩ := hsp; exact end_ S6 fun t7 J7 => ⟨_, _, J7, q6⟩
          | brk => obtain ⟨σ6, H6, S6, q6⟩ := hsp; exact end_ S6 fun t7 J7 => ⟨_, _, J7, q6⟩
          | cont => obtain ⟨σ6, H6, S6, q6⟩ := hsp; exact end_ S6 fun t7 J7 => ⟨_, _, J7, q6⟩
          | ret u => obtain ⟨v6, σ6, H6, S6, r6, q6⟩ := hsp; exact end_ S6 fun t7 J7 => ⟨_, _, _, J7, r6, q6⟩
        | false =>
          show wpAny _ X.A (handleBy (.ref a) X.env hds2) _ _ _
          exact ih (hno rfl)
    exact go hh wish
  · cases fl with
    | next => obtain ⟨σ', H', J', q⟩ := hsp; exact ho.run pins t1 σ' H' D (J'.ofTry ok) q
    | brk => obtain ⟨σ', H', J', q⟩ := hsp; exact ⟨σ', H', J'.ofTry ok, q⟩
    | cont => obtain ⟨σ', H', J', q⟩ := hsp; exact ⟨σ', H', J'.ofTry ok, q⟩
    | ret u => obtain ⟨v, σ', H', J', r, q⟩ := hsp; exact ⟨v, σ', H', J'.ofTry ok, r, q⟩
end
/-! ### over the mirrors -/
abbrev Hd := (Nat → Option Bool) × Option Nat × SM
def hdsRun : List Hd → En → Nat → Fs → Sto → SRes
  | [], env, c, fs, st => .exc env c fs st
  | (sub, i, ms) :: r, env, c, fs, st => match sub c with
    | some true => suiteEnd i (ms (match i with | some i => env.set i (.ex c fs) | none => env) st)
    | some false => hdsRun r env c fs st
    | none => .bad
def sTryG (hds : List Hd) (mb mu : SM) : SM := fun env st => match mb env st with
  | .nx env' st' => mu env' st'
  | .exc env' c fs st' => hdsRun hds env' c fs st'
  | r => r
inductive RHds (G : Gx) : List ExceptHandler → List Hd → Prop
  | nil : RHds G [] []
  | one {x : Str} {cv : Value} {sub : Nat → Option Bool} {ms : SM} {b₀ : Stmt} {suite : List Stmt} {np pos' : Pos} {hds : List ExceptHandler} {l : List Hd} (hc : Names G.X x cv) (hsub : ∀ c b, sub c = some b → PySem.W.exmOne G.X.K (.ref (G.ca c)) cv = some b)
      (hsu : ∀ (a : Addr) (oe : Obj) (cls : Value) (d : Option Addr) (pn : List (Addr × Obj)), Zc cls d oe → (∃ vs, oe.data = .fields vs) → RSs (G.su a oe cls d pn) (b₀ :: suite) ms) (r : RHds G hds l) :
      RHds G (.ExceptHandler (some (.Name x np)) none (b₀ :: suite) pos' :: hds) ((sub, none, ms) :: l)
  | as {x n : Str} {i : Nat} {cv : Value} {sub : Nat → Option Bool} {ms : SM} {b₀ : Stmt} {suite : List Stmt} {np pos' : Pos} {hds : List ExceptHandler} {l : List Hd} (hN : G.X.N.Nodup) (hi : G.X.N[i]? = some n) (hln : G.X.env.kindOf n = some .local) (hc : Names G.X x cv)
      (hsub : ∀ c b, sub c = some b → PySem.W.exmOne G.X.K (.ref (G.ca c)) cv = some b)
      (hsu : ∀ (a : Addr) (oe : Obj) (cls : Value) (d : Option Addr) (pn : List (Addr × Obj)), Zc cls d oe → (∃ vs, oe.data = .fields vs) → RSs (G.su a oe cls d pn) (b₀ :: suite) ms) (r : RHds G hds l) :
      RHds G (.ExceptHandler (some (.Name x np)) (some n) (b₀ :: suite) pos' :: hds) ((sub, some i, ms) :: l)
section
variable {G : Gx} {body orelse : List Stmt} {h₀ : ExceptHandler} {hds : List ExceptHandler} {l : List Hd} {pos : Pos} {mb mu : SM}
/-- what a clause's suite is asked -/
def tsOf (G : Gx) (suite : List Stmt) : Addr → Value → Option Addr → TS := fun a cls d D σ H => ∀ oe pn, Zc cls d oe → (∃ vs, oe.data = .fields vs) → QSs (G.su a oe cls d pn) suite D σ H
theorem rhds_of : ∀ {hs : List ExceptHandler} {l : List Hd}, RHds G hs l → G.xc = none → ∃ cl, HdsG G.X hs cl ∧
    ∀ {W1 : Wd} {σ1 : L2.St} {env' : En} {c : Nat} {fs : Fs} {st' : Sto} {Dn : Ends} {dd : Option Addr}, WOk G.X.K G.ca W1 st' → RepE G.X.K G.ca G.xc W1 σ1 env' → RepX G.X.K G.ca W1 fs dd → PostS G W1 σ1 env' (hdsRun l env' c fs st') Dn → wGen G.X.K G.E Dn cl (.ref (G.ca c)) dd σ1 W1.h := by
  intro hs l h hx
  induction h with
  | nil => exact ⟨[], .nil, fun {W1 σ1 env' c fs st' Dn dd} w1 re1 rx p => p σ1 dd W1 (ExtS.refl W1 σ1 env') w1 re1 rx⟩
  | @one x cv sub ms b₀ suite np pos' hds l hc hsub hsu r ih =>
    obtain ⟨cl, h1, h2⟩ := ih
    refine ⟨(cv, none, tsOf G (b₀ :: suite)) :: cl, .one hc (fun a oe cls d pn z1 z2 => ⟨fun pins s σ H D I h => h oe pn z1 z2 pins s I⟩) h1, fun {W1 σ1 env' c fs st' Dn dd} w1 re1 rx p => ?_⟩
    have p : PostS G W1 σ1 env' (match sub c with | some true => suiteEnd none (ms env' st') | some false => hdsRun l env' c fs st' | none => .bad) Dn := p
    cases hs : sub c with
    | none => rw [hs] at p; exact p.elim
    | some b =>
      rw [hs] at p
      refine ⟨b, hsub c b hs, fun hbt a ha oe pn2 z1 z2 => ?_, fun hbf => ?_⟩
      · subst hbt
        dsimp only at p
        refine hsu a oe _ dd pn2 z1 z2 σ1 W1 env' st' _ w1 ?_ ?_
        · refine ⟨re1.len, re1.sh, re1.oL, re1.oI, fun j c' fs' h => ?_, re1.sep⟩
          obtain ⟨a', d', h1, _⟩ := re1.ex j c' fs' h
          have h1 : G.xc = _ := h1
          rw [hx] at h1
          cases h1
        · have fin : ∀ {σ3 W3 env3 st3}, ExtS W1 σ1 env' W3 σ3 env3 → WOk G.X.K G.ca W3 st3 → RepE G.X.K G.ca (some (a, Value.ref (G.ca c), dd)) W3 σ3 env3 → ExtS W1 σ1 env' W3 σ3 (clr env3) ∧ RepE G.X.K G.ca G.xc W3 σ3 (clr env3) := fun {σ3 W3 env3 st3} e3 w3 re3 =>
            ⟨e3.trans (clr_ext W3 σ3 env3), clr_ok re3⟩
          cases hms : ms env' st' with
          | nx env3 st3 => rw [hms] at p; exact fun σ3 W3 e3 w3 re3 => p _ W3 (fin e3 w3 re3).1 w3 (fin e3 w3 re3).2
          | bk env3 st3 => rw [hms] at p; exact fun σ3 W3 e3 w3 re3 => p _ W3 (fin e3 w3 re3).1 w3 (fin e3 w3 re3).2
          | ct env3 st3 => rw [hms] at p; exact fun σ3 W3 e3 w3 re3 => p _ W3 (fin e3 w3 re3).1 w3 (fin e3 w3 re3).2
          | rt d3 st3 => rw [hms] at p; exact fun v W3 e3 w3 r3 => p v W3 e3 w3 r3
          | exc env3 c3 fs3 st3 => rw [hms] at p; exact p.elim
          | bad => rw [hms] at p; exact p.elim
      · subst hbf
        exact h2 w1 re1 rx p
  | @as x n i cv sub ms b₀ suite np pos' hds l hN hi hln hc hsub hsu r ih =>
    obtain ⟨cl, h1, h2⟩ := ih
    refine ⟨(cv, some i, tsOf G (b₀ :: suite)) :: cl, .as hN hi hln hc (fun a oe cls d pn z1 z2 => ⟨fun pins s σ H D I h => h oe pn z1 z2 pins s I⟩) h1, fun {W1 σ1 env' c fs st' Dn dd} w1 re1 rx p => ?_⟩
    have p : PostS G W1 σ1 env' (match sub c with | some true => suiteEnd (some i) (ms (env'.set i (.ex c fs)) st') | some false => hdsRun l env' c fs st' | none => .bad) Dn := p
    cases hs : sub c with
    | none => rw [hs] at p; exact p.elim
    | some b =>
      rw [hs] at p
      refine ⟨b, hsub c b hs, fun hbt a ha oe pn2 z1 z2 => ?_, fun hbf => ?_⟩
      · subst hbt
        dsimp only at p
        refine hsu a oe _ dd pn2 z1 z2 _ W1 (env'.set i (.ex c fs)) st' _ w1 ?_ ?_
        · have r0 : RepE G.X.K G.ca (some (a, Value.ref (G.ca c), dd)) W1 σ1 env' := by
            refine ⟨re1.len, re1.sh, re1.oL, re1.oI, fun j c' fs' h => ?_, re1.sep⟩
            obtain ⟨a', d', h1, _⟩ := re1.ex j c' fs' h
            have h1 : G.xc = _ := h1
            rw [hx] at h1
            cases h1
          refine r0.put rfl (fun d' e => by cases e) (fun c' fs' e => ?_)
          cases e
          exact ⟨a, dd, rfl, rfl, rx⟩
        · have x2 : ExtS W1 σ1 env' W1 (σ1.set i (some (.ref a))) (env'.set i (.ex c fs)) := ExtS.set W1 σ1 env' rfl
          have fin : ∀ {σ3 W3 env3 st3}, ExtS W1 (σ1.set i (some (.ref a))) (env'.set i (.ex c fs)) W3 σ3 env3 → WOk G.X.K G.ca W3 st3 → RepE G.X.K G.ca (some (a, Value.ref (G.ca c), dd)) W3 σ3 env3 →
              ExtS W1 σ1 env' W3 (σ3.set i none) ((clr env3).set i .no) ∧ RepE G.X.K G.ca G.xc W3 (σ3.set i none) ((clr env3).set i .no) := fun {σ3 W3 env3 st3} e3 w3 re3 =>
            ⟨(x2.trans e3).trans ((clr_ext W3 σ3 env3).trans (ExtS.set W3 σ3 (clr env3) rfl)), (clr_ok re3).wipe1⟩
          cases hms : ms (env'.set i (.ex c fs)) st' with
          | nx env3 st3 => rw [hms] at p; exact fun σ3 W3 e3 w3 re3 => p _ W3 (fin e3 w3 re3).1 w3 (fin e3 w3 re3).2
          | bk env3 st3 => rw [hms] at p; exact fun σ3 W3 e3 w3 re3 => p _ W3 (fin e3 w3 re3).1 w3 (fin e3 w3 re3).2
          | ct env3 st3 => rw [hms] at p; exact fun σ3 W3 e3 w3 re3 => p _ W3 (fin e3 w3 re3).1 w3 (fin e3 w3 re3).2
          | rt d3 st3 => rw [hms] at p; exact fun v W3 e3 w3 r3 => p v W3 (x2.trans e3) w3 r3
          | exc env3 c3 fs3 st3 => rw [hms] at p; exact p.elim
          | bad => rw [hms] at p; exact p.elim
      · subst hbf
        exact h2 w1 re1 rx p
theorem rs_tryG (hst : G.X.stack = G.X.env :: G.X.outer) (hfr : G.X.env.frame = some G.X.env.locals) (tk : Takes G.X G.E) (hh : RHds G (h₀ :: hds) l)
    (hb : ∀ (Wt : WX) (pn : List (Addr × Obj)) (xe : Value → Shared → Prop), Takes (G.X.tr pn xe) Wt → PassesOwn (model G.X.prog G.X.w) G.X.A G.X.env xe → RSs (G.tr Wt pn xe) body mb)
    (hu : RSs G orelse mu) (hx : G.xc = none) : RS G (.Try body (h₀ :: hds) orelse [] pos) (sTryG l mb mu) := by
  obtain ⟨cl, hcl, wish⟩ := rhds_of hh hx
  intro σ W env st Dn w re hp
  refine qs_of (ps_try_gen (Wout := G.E) (tb := fun Wt D σ H => ∀ pn xe, Takes (G.X.tr pn xe) Wt → PassesOwn (model G.X.prog G.X.w) G.X.A G.X.env xe → QSs (G.tr Wt pn xe) body D σ H) pss_q hst hfr tk
    (fun Wt pn xe t1 t2 => ⟨fun pins s σ H D I h => h pn xe t1 t2 pins s I⟩) hcl) ?_
  intro pn xe t1 t2
  refine hb _ pn xe t1 t2 σ W env st _ w re ?_
  unfold sTryG at hp
  cases hm : mb env st with
  | nx env' st' =>
    rw [hm] at hp
    exact fun σ1 W1 x1 w1 re1 => hu σ1 W1 env' st' Dn w1 re1 (PostS.mono x1 hp)
  | rt d st' => rw [hm] at hp; exact hp
  | bk env' st' => rw [hm] at hp; exact hp
  | ct env' st' => rw [hm] at hp; exact hp
  | bad => rw [hm] at hp; exact hp
  | exc env' c fs st' =>
    rw [hm] at hp
    intro σ1 dd W1 x1 w1 re1 rx
    exact wish w1 re1 rx (PostS.mono x1 hp)
end
end Mi
/-! MiSub: own __getitem__; operators of an own instance beside an int. -/
namespace Mi
open PySem PySem.Spec PyProof.Rows L2
section
variable {G : Gx} {k : Nat} {tab : Tab} {a b : Expr} {ma mb : EM} {pos : Pos}
def ixOwn (tab : Tab) (x y : D) : M D := fun st => match clsOf x st with
  | some (c, _) => (match tab.lookup c with
    | some g => g [x, y] st
    | none => .bad)
  | none => ixD x y st
theorem re_ixOwn (tk : Takes G.X G.E) (hr : Room (k + 1) G.X.A) (ht : TabOk G k "__getitem__" 2 tab) (hfn : ∀ c g, tab.lookup c = some g → ∀ f, PySem.W.findIn G.X.K (.ref (G.ca c)) "__getitem__" = some (some (.ref f)) → PySem.W.fnIn G.X.K f = true)
    (ha : RE G a ma) (hb : RE G b mb) (hs : PlainIx b := by intro _ _; rfl) (hs2 : ∀ o i, subscripted b true o i = runValue (.builtin "lifetime.subscript" ⟨[o, i], []⟩) := by intro _ _; rfl) : RE G (.Subscript a b pos) (eOp (ixOwn tab) ma mb) := by
  intro σ W env st Q w re p pins s I
  refine Subscript_ (two_run (R := fun x y H => ∀ pins s v u, Inv G.X pins σ H s → RelV x v → RelV y u → wpAny (model G.X.prog G.X.w) G.X.A (subscriptTail a b v u) (EP G.X pins σ Q) G.X.xe s) (two ha hb w re p fun x y dx dy W2 s2 w2 r1 r2 p2 => ?_) I fun v u s2 x y H2 I2 rx ry q => q pins s2 v u I2 rx ry)
  intro pins s v u I rv ru
  unfold ixOwn at p2
  cases h1 : clsOf dx s2 with
  | none =>
    rw [h1] at p2
    obtain ⟨r, hr2, q⟩ := xd_ix σ W2 s2 x y dx dy Q w2 r1 r2 p2
    exact hr2 a b pins s σ W2.h x y v u Q I rv ru q (hs _ _)
  | some cf =>
    obtain ⟨c, fs⟩ := cf
    rw [h1] at p2
    dsimp only at p2
    cases hg : tab.lookup c with
    | none => rw [hg] at p2; exact p2.elim
    | some g =>
      rw [hg] at p2
      obtain ⟨f, D1, f1, f2, f3⟩ := ht c g hg
      obtain ⟨ad, d1, ws, rfl, had, _⟩ := clsOf_at w2 r1 h1
      cases rv
      obtain ⟨ox, od, J⟩ := inst_at I had
      obtain ⟨m, hF⟩ := I.fr
      refine PySem.W.sub_K hF I.ok.mod.kin J f1 (hfn c g hg f f1) f2 ?_ (hs2 _ _)
      exact D1.run tk hr.in1 (in1_frames _) w2 (.cons r1 (.cons r2 .nil)) rfl p2 I (.cons rfl (.cons ru .nil))
/-! ### an own instance on the left, an int on the right -/
structure MixT (K : PySem.W.Frag) (C : Addr) (op : Operator) : Prop where
  rr : ∃ rc, PySem.W.findIn K (.ref C) (dunderR op.info.2) = some rc ∧ (rc = none ∨ ∃ g : Addr, rc = some (.ref g))
  h1 : ∃ fo, PySem.W.findIn K (.type "int") (PySem.dunder op.info.2) = some fo
  h2 : ∃ ro, PySem.W.findIn K (.type "int") (dunderR op.info.2) = some ro
  sub : PySem.W.subIn K (.type "int") (.ref C) = some false
def ownT (tab : Tab) (x y : D) : M D := fun st => match clsOf x st, y with
  | some (c, _), .int _ => (match tab.lookup c with
    | some g => g [x, y] st
    | none => .bad)
  | _, _ => .bad
theorem own_mixT {op : Operator} {σ : L2.St} {W : Wd} {st : Sto} {x y : V} {dx dy : D} {Q : VK} (tk : Takes G.X G.E) (hr : Room k G.X.A) (ht : TabOk G k (PySem.dunder op.info.2) 2 tab) (hm : ∀ c g, tab.lookup c = some g → MixT G.X.K (G.ca c) op)
    (wk : WOk G.X.K G.ca W st) (rx : Rep G.X.K G.ca W x dx) (ry : Rep G.X.K G.ca W y dy) (p : Post G W σ (ownT tab dx dy st) Q) : QO G (binaryOp op) σ x y W.h Q := by
  unfold ownT at p
  split at p
  · rename_i c fs j h1
    cases hg : tab.lookup c with
    | none => rw [hg] at p; exact p.elim
    | some g =>
      rw [hg] at p
      obtain ⟨f, D1, f1, f2, f3⟩ := ht c g hg
      obtain ⟨⟨rc, r1, r2⟩, ⟨fo, h1'⟩, ⟨ro, h2'⟩, hsub⟩ := hm c g hg
      obtain ⟨ad, d1, ws, rfl, had, _⟩ := clsOf_at wk rx h1
      cases ry
      intro pins s v u I rv ru
      cases rv
      obtain ⟨t, rfl⟩ := id ru
      obtain ⟨ox, od, J⟩ := inst_at I had
      obtain ⟨m, hF⟩ := I.fr
      refine PySem.W.ksp_binT (T := "int") hF I.ok.mod.kin J rfl f3 f1 f2 r1 r2 h1' h2' hsub ?_
      exact thn (D1.run tk hr rfl wk (.cons rx (.cons (.int j) .nil)) rfl p I (.cons rfl (.cons ru .nil))) fun _ _ z => cmpBack z
  · exact p.elim
/-! ### an int on the left, an own instance on the right -/
/-- the int's own method declines -/
def Decl (op : Operator) : Prop := ∃ id : String, PySem.Slot "int" (PySem.dunder op.info.2) id ∧ fillsNumberSlot (.type "int") op.info.2 = pure true ∧
  ∀ (prog : Program) (w : World) (A : Around) (E : Value → Shared → Prop) (s : Shared) (i : Int) (t : Tok) (x C dx : Addr) (Q : Value → Shared → Prop), s.heap.get? x = some (PySem.W.instObj C dx) → Q .notImplemented s → wpAny (model prog w) A (call (.builtin id) [.int i t, .ref x]) Q E s
theorem decl_mul : Decl .Mult := ⟨"int.__mul__", PySem.F.slot_int_mul, PySem.F.fills_int_mul, fun prog w A E s i t x C dx Q hx q => by
  have M : Meets (Builtin.«int.__mul__» ⟨[.int i t, .ref x], []⟩) (fun _ R s => s.heap.get? x = some (PySem.W.instObj C dx) ∧ R (.ok (.ret Value.notImplemented)) s) :=
    .of_wp fun prog w A R s h => by
      obtain ⟨hp, g, d, tk, os⟩ := s
      obtain ⟨hl, h⟩ := h
      wp_walk
      exact ⟨_, rfl, h⟩
  exact call_meets PySem.F.slot_int_mul (typeIs_int s i t) PySem.F.entry_int_mul (PySem.F.args_int_mul_2 _ _) M ⟨hx, q⟩⟩
structure MixR (K : PySem.W.Frag) (C : Addr) (op : Operator) : Prop where
  dd : ∃ f : Addr, PySem.W.findIn K (.ref C) (PySem.dunder op.info.2) = some (some (.ref f))
  sub : PySem.W.subIn K (.ref C) (.type "int") = some false
theorem rf_bin {prog : Program} {w : World} {A : Around} {E : Value → Shared → Prop} {s : Shared} {K : PySem.W.Frag} {x C dx L f f0 : Addr} {h₀ : Heap} {m : Str → Option Value} {od : Option Obj} {op : Operator} {i : Int} {t : Tok} {Q : Value → Shared → Prop} (hd : Decl op) (F : Fr h₀ L s.heap m) (X₀ : K.In h₀)
    (I : PySem.W.InstAt s.heap x (PySem.W.instObj C dx) C od) (hc : PySem.W.selfFirst K C = true) (hs : PySem.W.findIn K (.ref C) (PySem.dunder op.info.2) = some (some (.ref f0))) (hrr : PySem.W.findIn K (.ref C) (dunderR op.info.2) = some (some (.ref f))) (hf : PySem.W.isFn K (.ref f) = true) (hsub : PySem.W.subIn K (.ref C) (.type "int") = some false)
    (h : wpAny (model prog w) A (call (.ref f) [.ref x, .int i t]) (PySem.W.CmpBack Q) E s) : wpAny (model prog w) A (binaryOp op (.int i t) (.ref x)) Q E s := by
  have X := X₀.keeps F.keep
  obtain ⟨cd, rest, hcd, hm⟩ := PySem.W.ksp_first hc
  obtain ⟨id, slot, fills, decl⟩ := hd
  rcases hi : op.info with ⟨sym, nm⟩
  rw [hi] at hs hrr slot fills
  dsimp only at hs hrr slot fills
  have one := PySem.W.ksp_try X I hrr hf h
  have L1 : PySem.W.Looks (model prog w) s.heap (typeOf (.ref x)) (.ref C) := I.type
  have L3 : PySem.W.Looks (model prog w) s.heap (fillsNumberSlot (.ref C) nm) true := PySem.W.fills_K X hcd hm hs
  have L5 : PySem.W.Looks (model prog w) s.heap (isSubtype (.ref C) (.type "int")) false := PySem.W.looks_subIn X hsub
  have hne : (Value.type "int" == Value.ref C) = false := Bool.eq_false_iff.mpr fun q => by cases beq_iff_eq.mp q
  simp only [binaryOp, hi]
  refine wpAny_holding (wpAny_bind ?_)
  unfold binaryOp1
  refine wpAny_bind (wpAny_typeOf (typeIs_int s i t) (wpAny_bind (L1.here (wpAny_bind (wpAny_of_eq fills ?_)))))
  simp only [hne, Bool.false_eq_true, if_false]
  refine wpAny_bind (L3.here ?_)
  simp only [Bool.and_self, if_true]
  refine wpAny_bind (L5.here ?_)
  have hpy : numberSlotInPython (.type "int") nm = pure false := rfl
  simp only [Bool.false_eq_true, if_false, pure_bind, Bool.not_false, Bool.and_self, if_true, hpy]
  refine wpAny_bind (wpAny_tryMethod_declines (typeIs_int s i t) slot (decl prog w A E s i t x C dx _ I.at_ ⟨rfl, ?_⟩))
  refine wpAny_bind (wpAny_mono one (fun r s' hr' => ?_) fun _ _ e => e)
  obtain ⟨v, rfl, hq⟩ := hr'
  exact wpAny_bind (wpAny_rule (wpAny_pure (wpAny_pure hq)))
def ownR (tab : Tab) (x y : D) : M D := fun st => match x, clsOf y st with
  | .int _, some (c, _) => (match tab.lookup c with
    | some g => g [y, x] st
    | none => .bad)
  | _, _ => .bad
theorem own_mixR {op : Operator} {σ : L2.St} {W : Wd} {st : Sto} {x y : V} {dx dy : D} {Q : VK} (hd : tab = [] ∨ Decl op) (tk : Takes G.X G.E) (hr : Room k G.X.A) (ht : TabOk G k (dunderR op.info.2) 2 tab) (hm : ∀ c g, tab.lookup c = some g → MixR G.X.K (G.ca c) op)
    (wk : WOk G.X.K G.ca W st) (rx : Rep G.X.K G.ca W x dx) (ry : Rep G.X.K G.ca W y dy) (p : Post G W σ (ownR tab dx dy st) Q) : QO G (binaryOp op) σ x y W.h Q := by
  unfold ownR at p
  split at p
  · rename_i j c fs h1
    cases hg : tab.lookup c with
    | none => rw [hg] at p; exact p.elim
    | some g =>
      rw [hg] at p
      obtain ⟨f, D1, f1, f2, f3⟩ := ht c g hg
      obtain ⟨⟨f0, hs⟩, hsub⟩ := hm c g hg
      obtain ⟨ad, d1, ws, rfl, had, _⟩ := clsOf_at wk ry h1
      cases rx
      intro pins s v u I rv ru
      cases ru
      obtain ⟨t, rfl⟩ := id rv
      obtain ⟨_, _, _, hat, _⟩ := I.hok _ _ had
      obtain ⟨ox, od, J⟩ := inst_at I had
      have eo : ox = PySem.W.instObj (G.ca c) d1 := by
        have e := J.at_
        rw [hat] at e
        exact (Option.some.inj e).symm
      subst eo
      obtain ⟨m, hF⟩ := I.fr
      have hd' : Decl op := hd.resolve_left fun z => by rw [z] at hg; cases hg
      refine rf_bin hd' hF I.ok.mod.kin J f3 hs f1 f2 hsub ?_
      exact thn (D1.run tk hr rfl wk (.cons ry (.cons (.int j) .nil)) rfl p I (.cons rfl (.cons rv .nil))) fun _ _ z => cmpBack z
  · exact p.elim
/-- an operator: of built-in things, of two own instances, of one and an int -/
def opX (base : D → D → M D) (tab tabT tabR : Tab) (x y : D) : M D := fun st => match clsOf x st, clsOf y st with
  | some _, some _ => ownOp tab x y st
  | some _, none => ownT tabT x y st
  | none, some _ => ownR tabR x y st
  | none, none => base x y st
theorem od_x {op : Operator} {base : D → D → M D} {tabT tabR : Tab} (hb : OpD G (binaryOp op) base) (hd : tabR = [] ∨ Decl op) (tk : Takes G.X G.E) (hr : Room k G.X.A) (ht : TabOk G k (PySem.dunder op.info.2) 2 tab)
    (htT : TabOk G k (PySem.dunder op.info.2) 2 tabT) (hmT : ∀ c g, tabT.lookup c = some g → MixT G.X.K (G.ca c) op) (htR : TabOk G k (dunderR op.info.2) 2 tabR) (hmR : ∀ c g, tabR.lookup c = some g → MixR G.X.K (G.ca c) op) : OpD G (binaryOp op) (opX base tab tabT tabR) := by
  intro σ W st x y dx dy Q wk rx ry p
  unfold opX at p
  split at p
  · exact own_bin tk hr ht wk rx ry p
  · exact own_mixT tk hr htT hmT wk rx ry p
  · exact own_mixR hd tk hr htR hmR wk rx ry p
  · exact hb σ W st x y dx dy Q wk rx ry p
end
end Mi
/-! MiCells: instances that are changed after they are made; x op= e. -/
namespace Mi
open PySem PySem.Spec PyProof.Rows L2
/-- C(..): a new instance held by a new cell -/
def kCelI (c : Nat) (fs : Fs) : M D := fun s => .ok (.cell s.length) (s ++ [.ins c fs])
def mNewC (c n : Nat) (dds : List D) (m : List D → M Fs) : List D → M D := fun ds st => if ds.length + dds.length = n then (m (ds ++ dds) st).bind (kCelI c) else .bad
section
variable {G : Gx} {k c : Nat} {f : Addr} {fd : FuncData} {ps : List Str}
theorem call_newC {n : Nat} {m : List D → M Fs} {dvs : List V} {dds : List D} (tk : Takes G.X G.E) (Mk1 : Mk G.X.K (G.ca c) f) (F : FnOk G.X.prog G.X.w G.X.K G.X.mg G.X.base (L2.CX G.X.prog G.X.w) k f fd ps (spI G.X.K G.ca c n m)) (hr : Room (k + 1) G.X.A) (hbd : BD G.X.K fd ps dvs)
    (rd : ∀ W, Reps G.X.K G.ca W dvs dds) : CallD G (.ref (G.ca c)) (mNewC c n dds m) := by
  obtain ⟨dvals, hd, hb⟩ := hbd
  intro σ W st vs ds Q wk r p
  unfold mNewC at p
  by_cases hl : ds.length + dds.length = n
  · rw [if_pos hl] at p
    refine run_new tk Mk1 F hr hb hd fun x dx hx hdx ne => ?_
    have hdx' : (W.lay dx (.own x) hdx).h x = none := by
      show upd W.h dx (.own x) x = none
      rw [upd_ne (Ne.symm ne)]; exact hx
    have hp : ((W.lay dx (.own x) hdx).lay x (.ins (G.ca c) dx []) hdx').h x ≠ none := by
      show upd _ x _ x ≠ none
      rw [upd_same]; exact fun z => by cases z
    have e1 : Ext W (W.lay dx (.own x) hdx) := W.lay_ext hdx
    have e2 : Ext (W.lay dx (.own x) hdx) (((W.lay dx (.own x) hdx).lay x (.ins (G.ca c) dx []) hdx').own x hp) := Wd.own_ext (Wd.lay_ext _ hdx') hdx' hp
    have e3 := e1.trans e2
    have w3 : WOk G.X.K G.ca (((W.lay dx (.own x) hdx).lay x (.ins (G.ca c) dx []) hdx').own x hp) st := (wk.lay hdx).own hdx' hp
    refine ⟨x, vs ++ dvs, ((W.lay dx (.own x) hdx).lay x (.ins (G.ca c) dx []) hdx').own x hp, st, ds ++ dds, dx, rfl, rfl, w3, .inr rfl, fun z => W.trk x (W.gav x z) hx, upd_same, (r.append (rd W)).mono e3, by rw [List.length_append]; exact hl, ?_⟩
    have back : ∀ {W' : Wd} (ng : x ∉ W'.g), XtI x (((W.lay dx (.own x) hdx).lay x (.ins (G.ca c) dx []) hdx').own x hp) W' → Ext W (W'.drop x ng) := fun {W'} ng z => by
      have no : ∀ q, W.av q → ∀ i, ¬ Own [some (.ref x)] [.oI 0 []] i q := fun q hq i ho => by
        obtain ⟨h1, _⟩ := ho
        cases i with
        | zero =>
          cases h1
          exact W.trk x hq hx
        | succ i => simp at h1
      refine ⟨fun q o n h => z.keep q o (fun av => ?_) (e3.keep q o n h), fun q h1 h2 => ?_, fun q h1 => ?_, fun q h => ?_, fun q h => e3.stay q (z.stay q h), ?_⟩
      · rcases e3.new q av with y | y
        · exact n y
        · rw [h] at y; cases y
      · exact ((z.own q (e3.av q h1) (e3.kp.nocell h1 h2) (no q h1)).1).trans (e3.own q h1 h2)
      · refine ⟨?_, fun y => by subst y; exact W.trk q h1 hx⟩
        by_cases hg : q ∈ W.g
        · obtain ⟨l, y, _⟩ := z.pre
          exact W'.gav q (by rw [y]; exact List.mem_append_left _ hg)
        · exact (z.own q (e3.av q h1) (e3.kp.nocell h1 hg) (no q h1)).2
      · rcases z.new q h.1 with y | y
        · rcases e3.new q y with y | y
          · exact .inl y
          · exact .inr y
        · exact .inr (e3.stay q y)
      · obtain ⟨l, y, y2⟩ := z.pre
        exact ⟨l, y, fun q hq => e3.stay q (y2 q hq)⟩
    cases hm : m (ds ++ dds) st with
    | bad => rw [hm] at p; exact p
    | exc c' fs st' =>
      rw [hm] at p
      intro dd W' z w' rx
      have ng : x ∉ W'.g := by
        obtain ⟨l, y, y2⟩ := z.pre
        rw [y]
        simp only [List.mem_append, not_or]
        exact ⟨fun q => W.trk x (W.gav x q) hx, fun q => absurd (y2 x q) (by rw [show (((W.lay dx (.own x) hdx).lay x (.ins (G.ca c) dx []) hdx').own x hp).h x = some (.ins (G.ca c) dx []) from upd_same]; exact fun z => by cases z)⟩
      exact p dd (W'.drop x ng) (back ng z) (w'.drop ng) (rx.kp (W'.drop_kp ng))
    | ok fs st' =>
      rw [hm] at p
      intro ws dx' W' z w' hv ng hh rf
      have hne : W'.h x ≠ none := by rw [hh]; exact fun z => by cases z
      have e := back ng z
      have ec : Ext W (W'.cel x hne) := by
        refine ⟨e.keep, e.own, fun q h => .inl (e.av q h).1, fun q h => ?_, e.stay, ?_⟩
        · by_cases eq : q = x
          · subst eq; exact .inr hx
          · exact e.new q ⟨h.elim id fun z => absurd z eq, eq⟩
        · obtain ⟨l, h1, h2⟩ := e.pre
          have h1 : W'.g = W.g ++ l := h1
          refine ⟨l ++ [x], by show W'.g ++ [x] = _; rw [h1, List.append_assoc], fun q hq => ?_⟩
          rcases List.mem_append.mp hq with z | z
          · exact h2 q z
          · have : q = x := by simpa using z
            subst this; exact hx
      have wc : WOk G.X.K G.ca (W'.cel x hne) (st' ++ [.ins c fs]) := w'.cel hv ng hne ⟨dx', ws, hh, rf⟩
      refine ⟨rfl, p (.ref x) (W'.cel x hne) ec wc (.cell ?_)⟩
      show (W'.g ++ [x])[st'.length]? = some x
      rw [← w'.len]
      simp
  · rw [if_neg hl] at p; exact p.elim
/-! ### o.f = e, o a cell's instance -/
variable {o e : Expr} {pos pos' : Pos} {mo ma : EM} {cs : List Nat} {fl : Str}
def kFldC (cs : List Nat) (f : Str) (env : En) (d x : D) (s : Sto) : SRes := match x with
  | .cell n => (match s[n]? with
    | some (.ins c fs) => if cs.contains c = true ∧ fs.length < 1000 then .nx env (s.set n (.ins c (put f d fs))) else .bad
    | _ => .bad)
  | _ => .bad
def kFldC1 (cs : List Nat) (f : Str) (o : EM) (env : En) (d : D) (s : Sto) : SRes := (o env s).go env (kFldC cs f env d)
def sFldC (cs : List Nat) (f : Str) (o a : EM) : SM := fun env st => (a env st).go env (kFldC1 cs f o env)
theorem rs_fldC (hf : FldOk G cs fl) (ho : RE G o mo) (ha : RE G e ma) (hs : swapsWith e (some (.Attribute o fl pos')) pos.line G.X.env = pure false := by first | exact swaps_ns rfl | rfl) : RS G (.Assign [.Attribute o fl pos'] e pos) (sFldC cs fl mo ma) := by
  intro σ W env st Dn wk re hp
  refine qs_of (ps_fld pe_q pe_q hs) ?_
  refine ha σ W env st _ wk re (bindES re hp fun d s1 v W1 e1 w1 r1 re1 p1 => ?_)
  refine ho σ W1 env s1 _ w1 re1 (bindES re1 p1 fun dx s2 vx W2 e2 w2 r2 re2 p2 => ?_)
  unfold kFldC at p2
  split at p2
  · rename_i n
    cases r2 with
    | cell hg =>
      rename_i q
      cases hsn : s2[n]? with
      | none => rw [hsn] at p2; exact p2.elim
      | some c =>
        rw [hsn] at p2
        cases c with
        | ins c fs =>
          dsimp only at p2
          split at p2
          · rename_i hcs
            obtain ⟨dxa, ws, g1, g2⟩ := w2.cell n q _ hg hsn
            obtain ⟨k1, k2⟩ := hf c (by simpa using hcs.1)
            have hne : W2.h q ≠ none := by rw [g1]; exact fun z => by cases z
            have kk := W2.wr_kp (o := .ins (G.ca c) dxa (putF fl v ws)) hne (W2.gav q (List.mem_of_getElem? hg))
            obtain ⟨x1, y1⟩ := cell_wr (o := .ins (G.ca c) dxa (putF fl v ws)) (c := .ins c (put fl d fs)) w2 hg hne ⟨dxa, _, upd_same, (g2.kp kk).put ((r1.mono e2).kp kk)⟩
            exact ⟨q, _, dxa, ws, rfl, g1, k1, k2, by rw [g2.length]; exact hcs.2, p2 σ _ (x1.s σ env) y1 (re2.mono x1)⟩
          · exact p2.elim
        | lst _ => exact p2.elim
        | dk _ => exact p2.elim
        | tab _ _ => exact p2.elim
  · exact p2.elim
/-! ### x op= e -/
variable {i : Nat} {x : Str} {g : D → D → M D} {op : Operator}
def kAug2 (i : Nat) (env : En) (z : D) (s : Sto) : SRes := .nx (env.set i (.sh z)) s
def kAug (i : Nat) (f : D → D → M D) (d : D) (env : En) (y : D) (s : Sto) : SRes := (f d y s).go env (kAug2 i env)
def sAug (i : Nat) (f : D → D → M D) (a : EM) : SM := fun env st => match env[i]? with
  | some (.sh d) => (a env st).go env (kAug i f d env)
  | _ => .bad
theorem rs_aug (hN : G.X.N.Nodup) (hi : G.X.N[i]? = some x) (hx : Loc G.X.env.scope x) (ho : OpD G (inplaceOp op) g) (ha : RE G e ma) (hf : G.X.fn x = true ∨ G.X.env.scope.names.lookup x = some .local := by first | exact .inl rfl | exact .inr rfl | assumption) :
    RS G (.AugAssign (.Name x pos') op e pos) (sAug i g ma) := by
  intro σ W env st Dn wk re hp pins s I
  unfold sAug at hp
  split at hp
  · rename_i d hd
    obtain ⟨v, e1, rv⟩ := re.sh i d hd
    obtain ⟨m, hn, hl⟩ := I.loc
    have vis : Vis G.X.env.scope x := by rcases hx with k | k; exact .inl k; exact .inr (.inl k)
    obtain ⟨u, r, l⟩ := hl i x v hi e1 vis
    refine wpAny_AugAssign_Name ?_
    have go : wpAny (model G.X.prog G.X.w) G.X.A (eval e G.X.env) (fun w2 t₂ => wpAny (model G.X.prog G.X.w) G.X.A (inplaceOp op u w2) (fun r t₃ => wpAny (model G.X.prog G.X.w) G.X.A (storeName G.X.env x r) (fun _ => SP G.X pins Dn .next) G.X.xe t₃) G.X.xe t₂) G.X.xe s := by
      refine thn (ha σ W env st (fun y H1 => QO G (inplaceOp op) σ v y H1 fun z H2 => Dn.nx (σ.set i (some z)) H2) wk re (bindES re hp fun dy s1 y W1 x1 w1 ry re1 p1 => ?_) pins s I) fun w2 t1 ⟨y, H1, I1, r1, q1⟩ => ?_
      · exact ho σ W1 s1 v y d dy _ w1 (rv.mono x1) ry (bindES re1 p1 fun dz s2 z W2 x2 w2 rz re2 p2 => p2 (σ.set i (some z)) W2 (ExtS.set W2 σ env rfl) w2 (re2.set rz))
      · refine thn (q1 pins t1 u w2 I1 r r1) fun zv t2 ⟨z, H2, I2, r2, q2⟩ => ?_
        exact store_ok I2 hN hi hx r2 (fun t3 I3 => ⟨_, H2, I3, q2⟩) hf
    rcases l with ⟨hk, hm⟩ | ⟨hk, c, hc, hcell⟩
    · exact wpAny_loadName_local I.ok.kind hk hn hm go
    · rcases hk with hk | hk
      · exact wpAny_loadName_cell I.ok.kind hk hc hcell go
      · have hk : G.X.env.scope.names.lookup x = some .free := hk
        rcases hx with z | z <;> (rw [z] at hk; cases hk)
  · exact hp.elim
/-- += of ints, texts; of an own instance by its __iadd__ -/
def iAdd (tab : Tab) (x y : D) : M D := fun st => match clsOf x st with
  | some (c, _) => (match tab.lookup c with
    | some g => g [x, y] st
    | none => .bad)
  | none => (match x, y with
    | .int i, .int j => .ok (.int (i + j)) st
    | .str a, .str b => if a.length + b.length ≤ LIM then .ok (.str (a ++ b)) st else .bad
    | _, _ => .bad)
theorem ip_add {tab : Tab} (tk : Takes G.X G.E) (hr : Room k G.X.A) (ht : TabOk G k "__iadd__" 2 tab) : OpD G (inplaceOp .Add) (iAdd tab) := by
  intro σ W st x y dx dy Q wk rx ry p
  unfold iAdd at p
  cases h1 : clsOf dx st with
  | none =>
    rw [h1] at p
    dsimp only at p
    split at p
    · cases rx; cases ry
      exact qo_of iop_add ⟨_, _, rfl, rfl, p _ W (Ext.refl W) wk (.int _)⟩
    · cases rx; cases ry
      split at p
      · rename_i hl
        exact qo_of iop_add_str ⟨_, _, rfl, rfl, lim_le hl, p _ W (Ext.refl W) wk (.str _)⟩
      · exact p.elim
    · exact p.elim
  | some cf =>
    obtain ⟨c, fs⟩ := cf
    rw [h1] at p
    dsimp only at p
    cases hg : tab.lookup c with
    | none => rw [hg] at p; exact p.elim
    | some g =>
      rw [hg] at p
      obtain ⟨f, D1, f1, f2, f3⟩ := ht c g hg
      obtain ⟨ad, d1, ws, rfl, had, _⟩ := clsOf_at wk rx h1
      intro pins s v u I rv ru
      cases rv
      obtain ⟨ox, od, J⟩ := inst_at I had
      obtain ⟨m, hF⟩ := I.fr
      refine PySem.W.ksp_inplace hF I.ok.mod.kin J f3 f1 f2 ?_
      exact thn (D1.run tk hr rfl wk (.cons rx (.cons ry .nil)) rfl p I (.cons rfl (.cons ru .nil))) fun _ _ z => cmpBack z
end
end Mi
/-! MiList: list(o) of an own class with __iter__ over a list and __len__. -/
namespace Mi
open PySem PySem.Spec PyProof.Rows L2 ItX
/-! ### another around -/
/-- .. where nothing may be raised -/
abbrev Gx.at (G : Gx) (A' : Around) : Gx := ⟨{ G.X with A := A', xe := fun _ _ => False }, G.ca, fun _ _ _ _ => False, G.xc⟩
section
variable {X : Cx} {A' : Around} {pins : List (Addr × Obj)} {σ : L2.St} {H : Hp} {s : Shared}
theorem inv_to (I : Inv X pins σ H s) (hA : A'.frames = X.A.frames) (hh : X.calm = true → A'.handled = none) : Inv { X with A := A', xe := fun _ _ => False } pins σ H s :=
  ⟨⟨I.ok.mod, I.ok.kind, I.ok.glob, I.ok.blt, I.ok.above, I.ok.inj, I.ok.has, I.ok.cab, hh, hA.trans I.ok.frames, I.ok.stk, I.ok.exf, I.ok.bs, I.ok.bsz, I.ok.noex, I.ok.exfs, I.ok.funs, I.ok.frf⟩, I.os, I.bare, I.base, I.loc, I.cell, I.free, I.freeC, I.pin, I.hok, I.len⟩
theorem inv_from (I : Inv { X with A := A', xe := fun _ _ => False } pins σ H s) (ok : X.Ok) : Inv X pins σ H s :=
  ⟨ok, I.os, I.bare, I.base, I.loc, I.cell, I.free, I.freeC, I.pin, I.hok, I.len⟩
end
theorem TabOk.at {G : Gx} {A' : Around} {k n : Nat} {name : Str} {tab : Tab} (h : TabOk G k name n tab) : TabOk (G.at A') k name n tab := fun c g e => by
  obtain ⟨f, D1, f1, f2, f3⟩ := h c g e
  exact ⟨f, ⟨D1.ok⟩, f1, f2, f3⟩
/-! ### the own __iter__, run anywhere -/
theorem own_iter_at {G : Gx} {A' : Around} {c : Nat} {fld : Str} {pins : List (Addr × Obj)} {σ : L2.St} {H : Hp} {s : Shared} {q dx l : Addr} {ws : List (Str × V)} {ys : List V} {Q : Value → Shared → Prop} {E : Value → Shared → Prop} (hr : Room 2 A') (hA : A'.frames = G.X.A.frames) (O : OwnIt G c fld)
    (I : Inv G.X pins σ H s) (hq : H q = some (.ins (G.ca c) dx ws)) (hlk : ws.lookup fld = some (.ref l)) (hsq : SqL G.X.K H l ys)
    (k : ∀ it s', Inv G.X pins σ H s' → s'.heap.IsListIter it l 0 → FpOk G.X pins H it → Q (.ref it) s') : wpAny (model G.X.prog G.X.w) A' (pyIter (.ref q)) Q E s := by
  obtain ⟨f, qual, stI, fd, F, S, bd, f1, f2, der⟩ := O.it
  obtain ⟨ox, od, J⟩ := inst_at I hq
  obtain ⟨m, hF⟩ := I.fr
  refine PySem.W.owit_iter hF I.ok.mod.kin J f1 f2 ?_
  have b1 := bd s [.ref q] I.kIn rfl
  have e0 : Env0 G.X.prog G.X.w G.X.K G.X.mg G.X.base A' G.X.stack s H := by
    have e := I.env0
    exact ⟨by rw [hA]; exact e.frames, e.mod, e.bs, e.bsz, e.funs, e.frf, e.hok, e.bare⟩
  have run : codeAny (model G.X.prog G.X.w) A' (.call (.ref f) ⟨[.ref q], []⟩) (CR (L2.CX G.X.prog G.X.w) G.X.stack G.X.prog G.X.w H s (fun r H' => ∃ it o, r = .ref it ∧ H it = none ∧ s.heap.objs.size ≤ it ∧ ItAt G.X.K H (.ref l) it o ∧ H' = upd H it o) E0) s := by
    refine fn_run (vs := [.ref q]) (us := [.ref q]) F S hr e0 b1 (.cons rfl .nil) rfl fun cdv hr2 => ⟨_, der cdv _ _ _ _ _, ?_⟩
    refine ⟨.ref q, rfl, q, _, dx, ws, .ref l, rfl, hq, O.cl, O.na, hlk, .ref l, rfl, .inr ⟨l, ys, rfl, hsq⟩, fun it o h1 h2 h3 => ⟨it, o, rfl, h1, h2, h3, rfl⟩⟩
  refine wpAny_call (codeAny_mono run fun res s' hz => ?_)
  cases res with
  | error ex =>
    exfalso
    obtain ⟨_, _, _, _, _, _, _, _, _, _, _, _, z⟩ := hz
    exact z
  | ok fl =>
    cases fl with
    | next => exact hz.elim
    | brk => exact hz.elim
    | cont => exact hz.elim
    | ret u =>
      obtain ⟨rv, H', I', rr, it, o, rfl, hn, hge, hat, rfl⟩ := I.after hz
      cases rr
      have hsz : G.X.s_0.heap.objs.size ≤ it := Nat.le_trans I.sz hge
      unfold PySem.W.OwitIt
      rcases hat with ⟨z, t, ty, e, _⟩ | ⟨l', ys', e, hl, rfl⟩
      · cases e
      · cases e
        have hst : s'.heap.get? it = some (GNX.itObj l 0) := (I'.hok it _ upd_same).1
        have hT : s'.TypeIs (.ref it) "list_iterator" := ⟨_, hst, rfl⟩
        have J0 := inv_drop I' upd_same
        rw [dropH_upd hn] at J0
        have fp := inv_fp I' upd_same hsz
        rw [dropH_upd hn] at fp
        exact wpAny_specialOf hT PySem.slot_listiter_next.lookup (k it s' J0 ⟨_, hst, rfl, rfl⟩ fp)
/-! ### the loop of list.extend over a list's iterator -/
theorem ext_loop {X : Cx} {A1 : Around} {q it l : Addr} {ys : List V} {pins : List (Addr × Obj)} {σ : L2.St} {H : Hp} {Rs : Result → Shared → Prop} (hh : A1.in1.handled = none) (hsq : ∀ acc, SqL X.K (upd H q (.lst acc)) l ys) (hfp : FpOk X pins (upd H q (.lst [])) it)
    (hdone : ∀ s, Inv X pins σ (upd H q (.lst ys)) s → Rs (.ok (.ret .none)) s) (hz : ys.length ≤ sizeLine) :
    ∀ (n i : Nat) (s : Shared), n = ys.length - i → i ≤ ys.length → Inv X pins σ (upd H q (.lst (ys.take i))) s → s.heap.IsListIter it l i → codeAny (model X.prog X.w) A1 (.builtin "list.extend.loop" ⟨[.ref q, .ref it, .none], []⟩) Rs s := by
  have hit : ∀ acc, FpOk X pins (upd H q (.lst acc)) it := fun acc => by
    obtain ⟨f0, f1, f2, f3, f4, f5⟩ := hfp
    refine ⟨?_, f1, f2, f3, f4, f5⟩
    by_cases e : it = q
    · subst e; rw [upd_same] at f0; cases f0
    · rw [upd_ne e] at f0 ⊢; exact f0
  intro n
  induction n with
  | zero =>
    intro i s hn hi I st
    have ei : i = ys.length := by omega
    subst ei
    refine codeAny_builtin PySem.F.entry_extend_loop ?_
    rw [Around.under_plainId PySem.F.plain_extend_loop _]
    show wpAny _ A1.in1 (pyNext (.ref it) >>= _) _ _ s
    obtain ⟨its, rv, pl, _⟩ := I.list (hsq _)
    refine wpAny_bind (wpAny_pyNext_list_end hh st pl.isList (by rw [List.getElem?_toArray, List.getElem?_eq_none]; rw [rv.length]; exact Nat.le_refl _) fun h' sb => ?_)
    rw [List.take_length] at I
    obtain ⟨f0, f1, f2, f3, f4, f5⟩ := hit ys
    exact wpAny_pure (hdone _ (I.turned (t' := s.toks) (fun b o hb e => sb b o hb e) f0 f1 f3 f4 f5))
  | succ n ih =>
    intro i s hn hi I st
    have hlt : i < ys.length := by omega
    refine codeAny_builtin PySem.F.entry_extend_loop ?_
    rw [Around.under_plainId PySem.F.plain_extend_loop _]
    show wpAny _ A1.in1 (pyNext (.ref it) >>= _) _ _ s
    obtain ⟨its, rv, pl, _⟩ := I.list (hsq _)
    obtain ⟨u, hu, ru⟩ := rv.get (List.getElem?_eq_getElem hlt)
    refine wpAny_bind (wpAny_pyNext_list_item st pl.isList (x := u) (by rw [List.getElem?_toArray]; exact hu) fun h' st' sb => ?_)
    obtain ⟨f0, f1, f2, f3, f4, f5⟩ := hit (ys.take i)
    have I1 : Inv X pins σ (upd H q (.lst (ys.take i))) { s with heap := h' } := I.turned (t' := s.toks) (fun b o hb e => (sb.2 b hb).trans e) f0 f1 f3 f4 f5
    show wpAny _ A1.in1 (updateSeq q (·.push u) >>= _) _ _ _
    obtain ⟨_, as, k, r2, hl2, e⟩ := I1.lstM upd_same
    have hal : as.length = i := by rw [← hl2, List.length_take]; omega
    refine wpAny_bind (wpAny_updateSeq e rfl (wpAny_pure ⟨plainId_quiet PySem.F.plain_extend_loop _, ?_⟩) (by rw [List.size_toArray]; omega) (by show (as.toArray.push u).size ≤ sizeLine + 1; rw [Array.size_push, List.size_toArray]; omega))
    have hnx : ys.take (i + 1) = ys.take i ++ [ys[i]] := by rw [List.take_succ_eq_append_getElem hlt]
    have I2 := I1.lset (f := (·.push u)) (its' := as ++ [u]) (ys := ys.take i ++ [ys[i]]) (t' := s.toks) upd_same e (by simp) (r2.append (.cons ru .nil)) (by rw [List.length_append, List.length_take, List.length_singleton]; omega)
    rw [upd_upd, ← hnx] at I2
    refine ih (i + 1) _ (by omega) (by omega) I2 (st'.at fun o eo => ?_)
    have hne : it ≠ q := fun z => by subst z; rw [upd_same] at f0; cases f0
    show (h'.update q (Obj.mapSeq fun x => x.push u)).get? it = some o
    rw [Heap.get?_update_other _ _ (Ne.symm hne)]
    exact eo
theorem lenD_noexc (tab : Tab) (x : D) (st : Sto) (c : Nat) (fs : Fs) (s1 : Sto) : lenD tab [x] st ≠ .exc c fs s1 := fun h => by
  have hn : ∀ c fs s1, ownLen tab x st ≠ .exc c fs s1 := fun c fs s1 hl => by
    unfold ownLen cif at hl
    split at hl
    · split at hl
      · split at hl
        · split at hl <;> cases hl
        · cases hl
      · cases hl
    · cases hl
  unfold lenD at h
  split at h
  · split at h <;> cases h
  · cases h
  · rename_i y _ _ e
    cases e
    split at h
    · cases h
    · cases e2 : ownLen tab x st with
      | bad => rw [e2] at h; cases h
      | exc c' fs' s' => exact hn _ _ _ e2
      | ok n s' => rw [e2] at h; cases h
  · cases h
/-! ### list(o) -/
noncomputable def kListO (xs : List D) (d : D) : M (List D) := fun s => match d with
  | .int n => cif ((0 ≤ n ∧ n ≤ 16777216) ∧ xs.length ≤ LIM) (.ok xs s) .bad
  | _ => .bad
noncomputable def listO (itab : List (Nat × Str)) (ltab : Tab) : List D → M (List D) := fun ds st => match ds with
  | [x] => (match clsOf x st with
    | some (c, fs) => (match itab.lookup c with
      | some f => (match fs.lookup f with
        | some (.lst xs) => (match ltab.lookup c with
          | some _ => (lenD ltab [x] st).bind (kListO xs)
          | none => .bad)
        | _ => .bad)
      | none => .bad)
    | none => listD [x] st)
  | _ => .bad
section
variable {G : Gx} {k : Nat} {itab : List (Nat × Str)} {ltab : Tab}
theorem kl_listO (tk : Takes G.X G.E) (hr : Room (k + 4) G.X.A) (hi : ∀ c f, itab.lookup c = some f → OwnIt G c f) (ht : TabOk G k "__len__" 1 ltab) : CallL G (.type "list") (listO itab ltab) := by
  intro σ W st vs ds Q wk r p
  unfold listO at p
  split at p
  case h_2 => exact p.elim
  rename_i x
  cases h1 : clsOf x st with
  | none => rw [h1] at p; exact kl_list σ W st vs [x] Q wk r p
  | some cf =>
    obtain ⟨c, fs⟩ := cf
    rw [h1] at p
    dsimp only at p
    cases hc : itab.lookup c with
    | none => rw [hc] at p; exact p.elim
    | some fld =>
      rw [hc] at p
      dsimp only at p
      split at p
      case h_2 => exact p.elim
      rename_i xs hl
      cases hlt : ltab.lookup c with
      | none => rw [hlt] at p; exact p.elim
      | some gl =>
      rw [hlt] at p
      cases r with
      | cons r1 rr =>
        cases rr
        rename_i vx
        obtain ⟨a, dx, ws, rfl, ha, rf⟩ := clsOf_at wk r1 h1
        obtain ⟨v, g1, g2⟩ := rf.look hl
        obtain ⟨l, ys, rfl, nl, hly, ry⟩ := g2.atL
        intro pins s us I rv
        cases rv with
        | cons rv1 rvr =>
        cases rvr
        cases rv1
        have fr : W.h s.heap.objs.size = none := I.hok.fresh (Nat.le_refl _)
        have hq1 : (W.lay s.heap.objs.size (.lst []) fr).h s.heap.objs.size ≠ none := by
          show upd _ _ _ _ ≠ none
          rw [upd_same]; exact fun z => by cases z
        have e1 : Ext W ((W.lay s.heap.objs.size (.lst []) fr).own s.heap.objs.size hq1) := Wd.own_ext (W.lay_ext fr) fr hq1
        have w1 : WOk G.X.K G.ca ((W.lay s.heap.objs.size (.lst []) fr).own s.heap.objs.size hq1) st := wk.own fr hq1
        refine callType_codes (Q₁ := fun obj s₁ => obj = .ref s.heap.objs.size ∧ s₁ = { s with heap := s.heap.push { cls := .type "list", data := .seq #[] } }) PySem.F.called_list (PySem.F.typeCall_list_1 _) PySem.F.entry_list_init (code_list_new _ ⟨rfl, rfl⟩) fun obj s₁ hob => ?_
        obtain ⟨rfl, rfl⟩ := hob
        have hS : (s.heap.push { cls := .type "list", data := .seq #[] }).get? s.heap.objs.size = some { cls := .type "list", data := .seq #[] } := Heap.get?_push_size _ rfl
        refine ⟨⟨_, hS, rfl⟩, PySem.F.args_list_init_2 _ _, ?_⟩
        have I1 : Inv G.X pins σ (upd W.h s.heap.objs.size (.lst [])) { s with heap := s.heap.push { cls := .type "list", data := .seq #[] } } := I.lnew (its := []) (t' := s.toks) .nil (Nat.zero_le _)
        generalize hqe : s.heap.objs.size = q at *
        show wpAny _ _ (do let old ← Builtin.List.listItems (.ref q); Builtin.List.listUpdate (.ref q) (fun _ => #[]); letGo old.toList.reverse; Builtin.List.listExtendWith (.ref q) (.ref a) .none) _ _ _
        refine wpAny_bind ?_
        unfold Builtin.List.listItems
        refine wpAny_bind (wpAny_seqItems hS rfl (wpAny_pure ?_))
        show wpAny _ _ (updateSeq q (fun _ => #[]) >>= fun _ => letGo (#[] : Array Value).toList.reverse >>= fun _ => Builtin.List.listExtendWith (.ref q) (.ref a) .none) _ _ _
        refine wpAny_bind (wpAny_updateSeq hS rfl ?_)
        have I2 := I1.lset (f := fun _ => #[]) (its := []) (its' := []) (ys := []) (t' := s.toks) upd_same hS rfl .nil (Nat.zero_le _)
        rw [upd_upd] at I2
        refine wpAny_bind (wpAny_letGo ?_)
        have hne : q ≠ a := fun z => by subst z; rw [fr] at ha; cases ha
        have hnl : l ≠ q := fun z => by subst z; rw [fr] at hly; cases hly
        have ha2 : upd W.h q (.lst []) a = some (.ins (G.ca c) dx ws) := by rw [upd_ne (Ne.symm hne)]; exact ha
        have hsq : ∀ acc, SqL G.X.K (upd W.h q (.lst acc)) l ys := fun acc => .inl (.inl (by rw [upd_ne hnl]; exact hly))
        obtain ⟨ox, od, J⟩ := inst_at I2 ha2
        unfold Builtin.List.listExtendWith
        refine wpAny_bind (J.type.here ?_)
        have t1 : Builtin.List.listSameRef (.ref q) (.ref a) = false := by simp [Builtin.List.listSameRef, hne]
        have t2 : (Value.ref (G.ca c) == Value.type "list") = false := rfl
        have t3 : (Value.ref (G.ca c) == Value.type "tuple") = false := rfl
        simp only [t1, t2, t3, Bool.or_false, Bool.false_eq_true, if_false]
        refine wpAny_bind (own_iter_at (A' := G.X.A.in1.in1) ((hr.mono (by omega : 4 ≤ k + 4)).in1.in1) rfl (hi c fld hc) I2 ha2 g1 (hsq _) fun it s3 I3 st3 fp3 => ?_)
        -- the hint, with the iterator pinned
        have hobj : ∀ b ∈ [it], ∃ o, s3.heap.get? b = some o ∧ ∀ v, o.data ≠ .cell v := fun b hb => by
          have eb : b = it := by simpa using hb
          subst eb
          obtain ⟨o, g1', g2', g3'⟩ := id st3
          exact ⟨o, g1', fun v z => by rw [g3'] at z; cases z⟩
        have hfp1 : ∀ b ∈ [it], FpOk G.X pins (upd W.h q (.lst [])) b := fun b hb => by
          have eb : b = it := by simpa using hb
          rw [eb]
          exact fp3
        have I3p := I3.pinned (fp := [it]) hfp1 hobj
        obtain ⟨fl, D1, l1, l2, l3⟩ := ht c gl hlt
        obtain ⟨ox3, od3, J3⟩ := inst_at I3p ha2
        refine wpAny_bind (wpAny_holding ?_)
        unfold Builtin.List.listLengthHint
        refine wpAny_bind (wpAny_bind (J3.type.here ((PySem.W.looks_findIn I3p.kIn l1).here ?_)))
        refine PySem.W.KFB.if_not rfl ?_
        refine PySem.W.KFB.if_so rfl ?_
        refine wpAny_bind (wpAny_rule (wpAny_bind (wpAny_attempt ?_)))
        -- len(o)
        have ok := I.ok
        have hcalm : (G.X.calm = true → G.X.A.in1.in1.handled = none) := ok.hd
        have kd := kd_len (G := G.at G.X.A.in1.in1) (k := k) takes_none5 ((hr.mono (by omega : (k + 1) + 2 ≤ k + 4)).in1.in1) (ht.at (A' := G.X.A.in1.in1))
        have r1' : Rep G.X.K G.ca ((W.lay q (.lst []) fr).own q hq1) (.ref a) x := r1.mono e1
        cases hlen : lenD ltab [x] st with
        | bad => rw [hlen] at p; exact p.elim
        | exc c2 fs2 st2 => exact absurd hlen (lenD_noexc _ _ _ _ _ _)
        | ok dn s1 =>
          rw [hlen] at p
          replace p : PostL G W σ (kListO xs dn s1) Q := p
          unfold kListO cif at p
          cases dn with
          | int n =>
          dsimp only at p
          split at p
          case isFalse => exact p.elim
          rename_i hb
          have run := kd σ ((W.lay q (.lst []) fr).own q hq1) st [.ref a] [x] (fun v H => v = .int n ∧ ∃ W', Ext ((W.lay q (.lst []) fr).own q hq1) W' ∧ WOk G.X.K G.ca W' s1 ∧ H = W'.h) w1 (.cons r1' .nil) (by
            rw [hlen]
            intro v W' e' w' rz
            cases rz
            exact ⟨rfl, W', e', w', rfl⟩)
          refine wpAny_mono (run _ s3 [.ref a] (inv_to I3p rfl hcalm) (.cons rfl .nil)) (fun u s4 hz => ?_) (fun _ _ z => z.elim)
          obtain ⟨z, H4, I4', rz, rfl, W4, e4, w4, rfl⟩ := hz
          obtain ⟨t, rfl⟩ := rz
          have I4 := inv_from I4' ok
          have hkeep : s4.heap.IsListIter it l 0 := st3.at fun o eo => (I4.pin (it, o) (List.mem_append_right _ (List.mem_append_right _ (mem_pinsAt (by simp) eo)))).1
          have hit4 : W4.h it = none := by
            obtain ⟨o, eo, _⟩ := id st3
            exact (I4.pin (it, o) (List.mem_append_right _ (List.mem_append_right _ (mem_pinsAt (by simp) eo)))).2.1
          have I5 := I4.unpinned
          have eq1 : Ext W W4 := e1.trans e4
          -- q and l stand
          have hqg : q ∉ ((W.lay q (.lst []) fr).own q hq1).g := fun z => W.trk q (W.gav q z) fr
          have hq4 : W4.h q = some (.lst []) := by
            rw [e4.own q (.inr rfl) hqg]
            exact upd_same
          have hl4 : W4.h l = some (.lst ys) := eq1.keep l _ nl hly
          have hsq4 : ∀ acc, SqL G.X.K (upd W4.h q (.lst acc)) l ys := fun acc => .inl (.inl (by rw [upd_ne hnl]; exact hl4))
          have same : upd W4.h q (.lst []) = W4.h := by
            funext b
            by_cases e : b = q
            · subst e; rw [upd_same, hq4]
            · rw [upd_ne e]
          have fp4 : FpOk G.X pins (upd W4.h q (.lst [])) it := by
            rw [same]
            exact ⟨hit4, fp3.2⟩
          have hzl : ys.length ≤ sizeLine := lim_le (by rw [ry.length]; exact hb.2)
          have hav4 : W4.av q := e4.av q (.inr rfl)
          have hng4 : q ∉ W4.g := e4.kp.nocell (.inr rfl) hqg
          have fin : ∀ s', Inv G.X pins σ (upd W4.h q (.lst ys)) s' → wants (fun r s₂ => r = .none ∧ EP G.X pins σ Q (.ref q) s₂) G.X.xe (.ok (.ret .none)) s' := fun s' I' => by
            have hneq : W4.h q ≠ none := by rw [hq4]; exact fun z => by cases z
            have kk := W4.wr_kp (o := .lst ys) hneq hav4
            have ew : Ext W (W4.wr q (.lst ys) hneq) := by
              refine ⟨fun b o n h => ?_, fun b h1 h2 => ?_, fun b h => eq1.av b h, fun b h => eq1.new b h, fun b h => eq1.stay b (kk.stay b h), eq1.pre⟩
              · have nb : b ≠ q := fun z => by subst z; rw [fr] at h; cases h
                show upd W4.h q _ b = some o
                rw [upd_ne nb]; exact eq1.keep b o n h
              · have nb : b ≠ q := fun z => by subst z; exact W.trk b h1 fr
                show upd W4.h q _ b = W.h b
                rw [upd_ne nb]; exact eq1.own b h1 h2
            exact ⟨rfl, .ref q, _, I', rfl, p q ys (W4.wr q (.lst ys) hneq) ew fr hav4 hng4 upd_same (w4.wr hneq hav4 hng4) ((ry.mono eq1).kp kk)⟩
          have loop : ∀ s', Inv G.X pins σ (upd W4.h q (.lst (ys.take 0))) s' → s'.heap.IsListIter it l 0 → codeAny (model G.X.prog G.X.w) G.X.A.in1 (.builtin "list.extend.loop" ⟨[.ref q, .ref it, .none], []⟩) (wants (fun r s₂ => r = .none ∧ EP G.X pins σ Q (.ref q) s₂) G.X.xe) s' := fun s' I' st' =>
            ext_loop (A1 := G.X.A.in1) (show G.X.A.in1.in1.handled = none from hr.hd) hsq4 fp4 fin hzl ys.length 0 s' (by omega) (Nat.zero_le _) I' st'
          have ex : ∀ {α : Type} {a b : Sem α} {Q : α → Shared → Prop} {E : Value → Shared → Prop} {s : Shared} {A : Around} {b1 : Bool}, (wpAny (model G.X.prog G.X.w) A a Q E s) → (wpAny (model G.X.prog G.X.w) A b Q E s) → wpAny (model G.X.prog G.X.w) A (if b1 = true then a else b) Q E s := fun h1 h2 => by
            split
            · exact h1
            · exact h2
          have I5' : Inv G.X pins σ (upd W4.h q (.lst [])) s4 := by rw [same]; exact I5
          refine wpAny_bind (wpAny_pure ?_)
          have hlong : Builtin.List.listTooLong n.toNat = false := notLongL (lim_le (by have := hb.1; show n.toNat ≤ 16777216; omega))
          refine PySem.W.KFB.if_not hlong (wpAny_pure ?_)
          refine ex ?_ (wpAny_pure ⟨plainId_quiet PySem.F.plain_extend_loop _, loop _ I5' hkeep⟩)
          refine wpAny_bind (wpAny_rule (wpAny_bind ?_))
          show wpAny _ _ (updateSeq q (·.push .none) >>= fun _ => updateSeq q (·.pop)) _ _ _
          obtain ⟨_, its6, k6, r6, _, e6⟩ := I5'.lstM upd_same
          cases r6
          refine wpAny_bind (wpAny_updateSeq e6 rfl ?_)
          have I7 := I5'.lset (f := (·.push Value.none)) (its' := [Value.none]) (ys := [.non]) (t' := s4.toks) upd_same e6 (by simp) (.cons rfl .nil) (by rw [List.length_singleton, sizeLine_eq]; decide)
          obtain ⟨_, its7, k7, r7, _, e7⟩ := I7.lstM upd_same
          obtain ⟨u7, rfl, ru7⟩ := r7.one
          refine wpAny_updateSeq e7 rfl ?_ (by show 1 ≤ sizeLine; rw [sizeLine_eq]; decide) (by show 0 ≤ sizeLine + 1; exact Nat.zero_le _)
          have I8 := I7.lset (f := (·.pop)) (its := [u7]) (its' := []) (ys := []) (t' := s4.toks) upd_same e7 (by rfl) .nil (Nat.zero_le _)
          rw [upd_upd, upd_upd] at I8
          have hneit : it ≠ q := fun z => by subst z; rw [hq4] at hit4; cases hit4
          refine wpAny_pure ⟨plainId_quiet PySem.F.plain_extend_loop _, loop _ I8 (hkeep.at fun o eo => ?_)⟩
          show ((s4.heap.update q _).update q _).get? it = some o
          rw [Heap.get?_update_other _ _ (Ne.symm hneit), Heap.get?_update_other _ _ (Ne.symm hneit)]
          exact eo
          | _ => exact p.elim
end
end Mi
/-! MiFor: range with a step, reversed(range(n)), lists unpacked. -/
namespace Mi
open PySem PySem.Spec PyProof.Rows L2
def rngC (lo c : Int) (n : Nat) : List D := (List.range n).map fun (i : Nat) => .int (lo + (i : Int) * c)
theorem jok_rngC {K : PySem.W.Frag} {ca : Nat → Addr} {W : Wd} (lo c : Int) (n : Nat) : JOk K ca W (Itc lo c n) (rngC lo c n) := by
  intro W' st kp wk
  refine ⟨fun i d hd => ?_, ?_⟩
  · unfold rngC at hd
    rw [List.getElem?_map] at hd
    have hi : i < n := by
      rcases Nat.lt_or_ge i n with h | h
      · exact h
      · rw [List.getElem?_eq_none (by simpa using h)] at hd; cases hd
    rw [List.getElem?_range hi] at hd
    cases hd
    refine ⟨hi, fun x H' y => ?_⟩
    obtain ⟨rfl, rfl⟩ := y
    exact ⟨W', rfl, Ext.refl W', wk, .int _⟩
  · show n ≤ (rngC lo c n).length
    unfold rngC
    simp
/-- how many turns range(i, j, c) has, c above 0 -/
def turns (i j c : Int) : Nat := if i < j then ((j - i - 1) / c + 1).toNat else 0
theorem small_step {i j c : Int} (h1 : -(2 ^ 61) ≤ i) (h2 : i < 2 ^ 61) (h3 : -(2 ^ 61) ≤ j) (h4 : j < 2 ^ 61) (h5 : 0 < c) (h6 : c < 2 ^ 30) : RgC i j c (turns i j c) := by
  have hd : 0 ≤ j - i - 1 → (j - i - 1) / c ≤ j - i - 1 := fun h => Int.ediv_le_self _ h
  have hd0 : 0 ≤ j - i - 1 → 0 ≤ (j - i - 1) / c := fun h => Int.ediv_nonneg h (by omega)
  have hm : 0 ≤ j - i - 1 → (j - i - 1) / c * c ≤ j - i - 1 := fun h => Int.ediv_mul_le _ (by omega)
  refine ⟨by omega, by omega, ?_, ?_⟩
  · have hz : -(2 ^ 63) ≤ Builtin.Range.rangeSize i j c ∧ Builtin.Range.rangeSize i j c < 2 ^ 63 := by
      unfold Builtin.Range.rangeSize
      rw [if_pos h5]
      split
      · have := hd (by omega); have := hd0 (by omega)
        omega
      · omega
    unfold Builtin.Range.small Builtin.Range.rangeFitsLong
    rw [if_pos h5]
    simp only [Bool.and_eq_true, Bool.or_eq_true, decide_eq_true_eq, beq_iff_eq]
    refine ⟨⟨⟨⟨⟨?_, ?_⟩, ?_, ?_⟩, ?_, ?_⟩, hz⟩, .inr ⟨?_, ?_⟩⟩ <;> omega
  · unfold Builtin.Range.rangeSize turns
    rw [if_pos h5]
    split
    · have := hd0 (by omega)
      omega
    · rfl
noncomputable def kR3 (ds : List D) : M (List D) := fun s => match ds with
  | [.int i, .int j, .int c] => cif ((-(2 ^ 61) ≤ i ∧ i < 2 ^ 61) ∧ (-(2 ^ 61) ≤ j ∧ j < 2 ^ 61) ∧ 0 < c ∧ c < 2 ^ 30) (.ok (rngC i c (turns i j c)) s) .bad
  | _ => .bad
noncomputable def iR3 (a : AM) : AM := fun env st => (a env st).bind kR3
section
variable {G : Gx} {tg a b c : Expr} {aa : AM} {ma : EM} {p pos : Pos}
theorem ri_range3 (hg : Gl G.X "range") (hm : G.X.mg "range" = none) (ha : RA G [a, b, c] aa) (hs : starEach [a, b, c] G.X.env = (false, eval a G.X.env) :: starEach [b, c] G.X.env := by exact starEach_ns rfl) (hpl : (backTo pos (starEach [b, c] G.X.env)).any (·.1) = false := by exact plain_ns rfl) :
    RI G tg (.Call (.Name "range" p) [a, b, c] [] pos) (iR3 aa) := by
  intro σ W env st R w re hp
  refine qi_of (pi_range3 hg hm pa_q hs hpl) ?_
  refine ha σ W env st _ w re (bindAI hp fun ds s1 vs W1 e1 w1 r1 p1 => ?_)
  unfold kR3 cif at p1
  split at p1
  · rename_i i j c
    split at p1
    · rename_i hb
      cases r1 with
      | cons q1 q2 =>
      cases q1
      cases q2 with
      | cons q1 q2 =>
      cases q1
      cases q2 with
      | cons q1 q2 =>
      cases q1
      cases q2
      exact ⟨i, j, c, _, rfl, small_step hb.1.1 hb.1.2 hb.2.1.1 hb.2.1.2 hb.2.2.1 hb.2.2.2, p1 _ W1 (Ext.refl W1) w1 (jok_rngC _ _ _)⟩
    · exact p1.elim
  · exact p1.elim
/-! ### for k in reversed(range(n)) -/
noncomputable def kRev (d : D) : M (List D) := fun s => match d with
  | .int n => cif (-(2 ^ 62) ≤ n ∧ n < 2 ^ 62) (.ok (rngC ((n.toNat : Int) - 1) (-1) n.toNat) s) .bad
  | _ => .bad
noncomputable def iRev (a : EM) : AM := fun env st => (a env st).bind kRev
theorem ri_rev1 {q rpos : Pos} (hg : Gl G.X "reversed") (hm : G.X.mg "reversed" = none) (hg2 : Gl G.X "range") (hm2 : G.X.mg "range" = none) (ha : RE G a ma) (na : starEach [a] G.X.env = (false, eval a G.X.env) :: starEach [] G.X.env := by exact starEach_ns rfl)
    (hs : starEach [.Call (.Name "range" q) [a] [] rpos] G.X.env = (false, eval (.Call (.Name "range" q) [a] [] rpos) G.X.env) :: starEach [] G.X.env := by exact starEach_ns rfl) : RI G tg (.Call (.Name "reversed" p) [.Call (.Name "range" q) [a] [] rpos] [] pos) (iRev ma) := by
  intro σ W env st R w re hp
  refine qi_of (pi_revR hg hm (prg_1 hg2 hm2 pe_q na) hs) ?_
  refine ha σ W env st _ w re ?_
  unfold iRev at hp
  cases h1 : ma env st with
  | bad => rw [h1] at hp; exact hp
  | exc c fs s1 => rw [h1] at hp; exact hp
  | ok d s1 =>
    rw [h1] at hp
    intro v W1 e1 w1 r1
    replace hp : PostI G W σ (kRev d s1) R := hp
    unfold kRev cif at hp
    split at hp
    · rename_i n
      cases r1
      split at hp
      · rename_i hb
        refine ⟨n, rfl, by omega, by omega, hb.1, hb.2, ?_⟩
        have e0 : (0 + (((n - 0).toNat : Nat) : Int) - 1) = (n.toNat : Int) - 1 := by
          rw [show n - 0 = n by omega]; omega
        rw [e0, show (n - 0).toNat = n.toNat by rw [show n - 0 = n by omega]]
        exact hp _ W1 e1 w1 (jok_rngC _ _ _)
      · exact hp.elim
    · exact hp.elim
/-! ### (a, b, ..) = a tuple or a list -/
def gA (ts : List TgM) : TgM := fun d env => match d with
  | .tup ds => gTs ts ds env
  | .lst ds => gTs ts ds env
  | .fix ds => gTs ts ds env
  | _ => none
variable {es : List Expr} {js : List Nat} {ms : List TgM}
theorem gTs_len : ∀ (ms : List TgM) (ds : List D) (env : En), gTs ms ds env ≠ none → ms.length = ds.length := fun ms => by
  induction ms with
  | nil => intro ds env h; cases ds with
    | nil => rfl
    | cons _ _ => exact absurd rfl h
  | cons t ts ih => intro ds env h; cases ds with
    | nil => exact absurd rfl h
    | cons d ds =>
      unfold gTs at h
      cases q : t d env with
      | none => rw [q] at h; exact absurd rfl h
      | some env1 =>
        rw [q] at h
        have := ih ds env1 h
        simp [this]
theorem rg_any {k : Nat} {n : Nat} (hc : G.X.calm = true) (h : RGs G es js ms) (hn : (assignEach es G.X.env).length = n := by exact asg_len rfl) (hm : ms.length = n := by rfl) (hst : (assignEach es G.X.env).findIdx? (·.1) = none := by exact asg_find rfl) : RG G (.Tuple es k pos) js (gA ms) := by
  intro σ W env v d Q re r p
  have fin : ∀ {q : Addr} {xs : List V} {ds : List D}, SqT G.X.K W.h q xs → Reps G.X.K G.ca W xs ds → PostG G W σ env js (gTs ms ds env) Q → QG G (.Tuple es k pos) (.ref q) σ W.h Q := fun {q xs ds} sq rr p => by
    have hl : ms.length = ds.length := gTs_len ms ds env fun z => by rw [z] at p; exact p
    obtain ⟨t, ht, hq⟩ := h σ W env xs ds Q re rr p
    exact qg_of (pg_tup hc ht hn hst) ⟨q, xs, rfl, sq, by rw [rr.length, ← hl, hm], hq⟩
  have finL : ∀ {q : Addr} {xs : List V} {ds : List D}, SqL G.X.K W.h q xs → Reps G.X.K G.ca W xs ds → PostG G W σ env js (gTs ms ds env) Q → QG G (.Tuple es k pos) (.ref q) σ W.h Q := fun {q xs ds} sq rr p => by
    have hl : ms.length = ds.length := gTs_len ms ds env fun z => by rw [z] at p; exact p
    obtain ⟨t, ht, hq⟩ := h σ W env xs ds Q re rr p
    exact qg_of (pg_unl hc ht hn hst) ⟨q, xs, rfl, sq, by rw [rr.length, ← hl, hm], hq⟩
  cases r with
  | tup n1 h1 r1 => exact fin (.inl h1) r1 p
  | tupK h1 r1 => exact fin h1.sq r1 p
  | lst n1 h1 r1 => exact finL (.inl (.inl h1)) r1 p
  | fix n1 h1 r1 => exact finL (.inl h1) r1 p
  | fixK h1 r1 => exact finL h1.sq r1 p
  | _ => exact p.elim
end
end Mi
/-! MiGen3: small things that the printed texts name. -/
namespace Mi
open PySem PySem.Spec PyProof.Rows L2 L2H
theorem wt_sz {vs : List V} {its : List Value} (h : Vals vs its) (hl : vs.length ≤ 1000) : its.toArray.size ≤ sizeLine := by
  rw [List.size_toArray, ← h.length, sizeLine_eq]
  exact Nat.le_trans hl (by decide)
theorem wt_v {vs : List V} {its : List Value} (h : Vals vs its) : Vals vs its.toArray.toList := by simpa using h
theorem roomH_mk {k : Nat} {A : Around} {v : Option Value} (r : Room k A) : RoomH k (A.mark v) := ⟨r.dp, r.un⟩
section
variable {G : Gx} {j k n c : Nat} {name : Str} {tab : Tab} {f : Addr}
theorem tb_up (h : j ≤ k) (t : TabOk G j name n tab) : TabOk G k name n tab := fun c g e => by
  obtain ⟨f, D1, f1, f2, f3⟩ := t c g e
  exact ⟨f, D1.mono h, f1, f2, f3⟩
theorem gi_mk {K : PySem.W.Frag} {C f0 : Addr} (h : PySem.W.findIn K (.ref C) "__getitem__" = some (some (.ref f0))) (hf : PySem.W.fnIn K f0 = true) : ∀ f, PySem.W.findIn K (.ref C) "__getitem__" = some (some (.ref f)) → PySem.W.fnIn K f = true := fun f e => by
  rw [h] at e
  cases e
  exact hf
theorem cd_leI : OpD G (compareOp .LtE) (cmpI fun i j => decide (i ≤ j)) := cd_int op_le
def lenS : List D → M D := fun ds st => match ds with
  | [.str y] => if y.length ≤ LIM then .ok (.int y.length) st else .bad
  | [.tup xs] => .ok (.int xs.length) st
  | [x] => (match seqOf x st with
    | some xs => .ok (.int xs.length) st
    | none => .bad)
  | _ => .bad
theorem kd_lenS : CallD G (.builtin "len") lenS := by
  intro σ W st vs ds Q wk r p
  unfold lenS at p
  split at p
  · rename_i y
    cases r with
    | cons r1 rr =>
      cases rr
      cases r1
      by_cases hl : y.length ≤ LIM
      · rw [if_pos hl] at p
        exact qc_of call_len_str ⟨y, rfl, lim_le hl, p _ W (Ext.refl W) wk (.int _)⟩
      · rw [if_neg hl] at p; exact p.elim
  · rename_i xs
    cases r with
    | cons r1 rr =>
      cases rr
      obtain ⟨q, ys, rfl, s1, r1⟩ := r1.sqT
      refine qc_of call_len_seq ⟨q, ys, rfl, .inr s1, ?_⟩
      rw [r1.length]
      exact p _ W (Ext.refl W) wk (.int _)
  · rename_i x _ _
    cases r with
    | cons r1 rr =>
      cases rr
      split at p
      · rename_i xs hs
        obtain ⟨q, ys, rfl, s1, r1⟩ := seqOf_at wk r1 hs
        refine qc_of call_len_seq ⟨q, ys, rfl, .inl s1, ?_⟩
        rw [r1.length]
        exact p _ W (Ext.refl W) wk (.int _)
      · exact p.elim
  · exact p.elim
/-! ints and texts, where an exception is handled -/
def addS : D → D → M D := fun x y st => match x, y with
  | .int i, .int j => .ok (.int (i + j)) st
  | .str a, .str b => if a.length + b.length ≤ LIM then .ok (.str (a ++ b)) st else .bad
  | _, _ => .bad
theorem od_addS : OpD G (binaryOp .Add) addS := by
  intro σ W st x y dx dy Q wk rx ry p
  unfold addS at p
  split at p
  · cases rx; cases ry
    exact qo_of op_add ⟨_, _, rfl, rfl, p _ W (Ext.refl W) wk (.int _)⟩
  · cases rx; cases ry
    split at p
    · rename_i hl
      exact qo_of op_add_str ⟨_, _, rfl, rfl, lim_le hl, p _ W (Ext.refl W) wk (.str _)⟩
    · exact p.elim
  · exact p.elim
def subS_ : D → D → M D := fun x y st => match x, y with
  | .int i, .int j => .ok (.int (i - j)) st
  | _, _ => .bad
theorem od_subS : OpD G (binaryOp .Sub) subS_ := by
  intro σ W st x y dx dy Q wk rx ry p
  unfold subS_ at p
  split at p
  · cases rx; cases ry
    exact qo_of op_sub ⟨_, _, rfl, rfl, p _ W (Ext.refl W) wk (.int _)⟩
  · exact p.elim
end
end Mi
/-! MiFresh: + and * of lists; new lists by them; slices. -/
namespace Mi
open PySem PySem.Spec PyProof.Rows L2
/-- a list that is tracked: a tree or a cell's -/
def trkOf (d : D) (st : Sto) : Option (List D) := match d with
  | .lst xs => some xs
  | .cell n => (match st[n]? with
    | some (.lst xs) => some xs
    | _ => none)
  | _ => none
theorem trkOf_at {K : PySem.W.Frag} {ca : Nat → Addr} {W : Wd} {st : Sto} {x : V} {d : D} {ds : List D} (wk : WOk K ca W st) (r : Rep K ca W x d) (h : trkOf d st = some ds) : ∃ p xs, x = .ref p ∧ W.h p = some (.lst xs) ∧ Reps K ca W xs ds := by
  unfold trkOf at h
  split at h
  · cases h
    obtain ⟨p, xs, e, _, h1, h2⟩ := r.atL
    exact ⟨p, xs, e, h1, h2⟩
  · rename_i n
    cases r with
    | cell hg =>
      cases hs : st[n]? with
      | none => rw [hs] at h; cases h
      | some c =>
        rw [hs] at h
        cases c with
        | lst ys =>
          cases h
          obtain ⟨xs, h1, h2⟩ := wk.cell n _ _ hg hs
          exact ⟨_, xs, rfl, h1, h2⟩
        | ins _ _ => cases h
        | dk _ => cases h
        | tab _ _ => cases h
  · cases h
theorem reps_rep {K : PySem.W.Frag} {ca : Nat → Addr} {W : Wd} {xs : List V} {ds : List D} (r : Reps K ca W xs ds) : ∀ n : Nat, Reps K ca W (List.replicate n xs).flatten (List.replicate n ds).flatten
  | 0 => .nil
  | n + 1 => by
    rw [List.replicate_succ, List.replicate_succ, List.flatten_cons, List.flatten_cons]
    exact r.append (reps_rep r n)
def addL : D → D → M D := fun x y st => match x, y with
  | .int i, .int j => .ok (.int (i + j)) st
  | .str a, .str b => if a.length + b.length ≤ LIM then .ok (.str (a ++ b)) st else .bad
  | .tup a, .tup b => if a ≠ [] ∧ a.length + b.length ≤ LIM then .ok (.tup (a ++ b)) st else .bad
  | x, y => (match trkOf x st, trkOf y st with
    | some a, some b => if a.length + b.length ≤ LIM then .ok (.lst (a ++ b)) st else .bad
    | _, _ => .bad)
instance (i j : Int) : Decidable (CMulW i j) := by unfold CMulW; infer_instance
noncomputable def mulL : D → D → M D := fun x y st => match x, y with
  | .int i, .int j => cif (((-(2 ^ 64) < i ∧ i < 2 ^ 64) ∨ (-(2 ^ 64) < j ∧ j < 2 ^ 64)) ∨ CMulW i j) (.ok (.int (i * j)) st) .bad
  | .str a, .int j => opMul [] (.str a) (.int j) st
  | x, .int k => (match trkOf x st with
    | some a => cif ((-(2 ^ 63) ≤ k ∧ k < 2 ^ 63) ∧ a.length * k.toNat ≤ LIM) (.ok (.lst (List.replicate k.toNat a).flatten) st) .bad
    | none => .bad)
  | _, _ => .bad
noncomputable def fdvL : D → D → M D := fun x y st => match x, y with
  | .int i, .int j => cif (0 < j ∧ j < 2 ^ 250) (.ok (.int (i / j)) st) .bad
  | _, _ => .bad
section
variable {G : Gx} {k : Nat} {a b : Expr} {ma mb : EM} {pos : Pos}
theorem od_fdvL : OpD G (binaryOp .FloorDiv) fdvL := by
  intro σ W st x y dx dy Q wk rx ry p
  unfold fdvL cif at p
  split at p
  · rename_i i j
    cases rx; cases ry
    split at p
    · rename_i hc
      exact qo_of op_fdivW ⟨i, j, rfl, rfl, wide_div (b := 250) hc.1 (by omega) (by decide) (by decide), p _ W (Ext.refl W) wk (.int _)⟩
    · exact p.elim
  · exact p.elim
theorem od_addL : OpD G (binaryOp .Add) addL := by
  intro σ W st x y dx dy Q wk rx ry p
  unfold addL at p
  split at p
  · cases rx; cases ry
    exact qo_of op_add ⟨_, _, rfl, rfl, p _ W (Ext.refl W) wk (.int _)⟩
  · cases rx; cases ry
    split at p
    · rename_i hl
      exact qo_of op_add_str ⟨_, _, rfl, rfl, lim_le hl, p _ W (Ext.refl W) wk (.str _)⟩
    · exact p.elim
  · rename_i c d
    split at p
    · rename_i hl
      obtain ⟨p1, xs, rfl, s1, r1⟩ := rx.sqT
      obtain ⟨p2, ys, rfl, s2, r2⟩ := ry.sqT
      have hne : xs ≠ [] := fun z => by subst z; cases r1; exact hl.1 rfl
      refine qo_of op_catT ⟨p1, p2, xs, ys, rfl, rfl, s1, s2, hne, lim_le (by rw [r1.length, r2.length]; exact hl.2), fun e => ?_, fun _ q hq => ?_⟩
      · subst e
        cases r2
        have := p (.ref p1) W (Ext.refl W) wk
        rw [List.append_nil] at this
        exact this rx
      · have e := W.lay_ext (o := .tup (xs ++ ys)) hq
        exact p (.ref q) (W.lay q (.tup (xs ++ ys)) hq) e (wk.lay hq) (.tup (W.lay_nav hq) (.inl upd_same) ((r1.append r2).mono e))
    · exact p.elim
  · split at p
    · rename_i c d h1 h2
      split at p
      · rename_i hl
        obtain ⟨p1, xs, rfl, s1, r1⟩ := trkOf_at wk rx h1
        obtain ⟨p2, ys, rfl, s2, r2⟩ := trkOf_at wk ry h2
        refine qo_of op_cat ⟨p1, p2, xs, ys, rfl, rfl, s1, s2, lim_le (by rw [r1.length, r2.length]; exact hl), fun q hq => ?_⟩
        have e := W.lay_ext (o := .lst (xs ++ ys)) hq
        exact p (.ref q) (W.lay q (.lst (xs ++ ys)) hq) e (wk.lay hq) (.lst (W.lay_nav hq) upd_same ((r1.append r2).mono e))
      · exact p.elim
    · exact p.elim
theorem od_mulL (tk : Takes G.X G.E) (hr : Room k G.X.A) : OpD G (binaryOp .Mult) mulL := by
  intro σ W st x y dx dy Q wk rx ry p
  unfold mulL cif at p
  split at p
  · cases rx; cases ry
    split at p
    · rename_i hc
      rcases hc with hc | hc
      · exact qo_of op_mul ⟨_, _, rfl, rfl, hc, p _ W (Ext.refl W) wk (.int _)⟩
      · exact qo_of op_mulW ⟨_, _, rfl, rfl, hc, p _ W (Ext.refl W) wk (.int _)⟩
    · exact p.elim
  · exact od_mul tk hr tb_nil σ W st x y _ _ Q wk rx ry p
  · rename_i kk _ _
    split at p
    · rename_i c h1
      split at p
      · rename_i hl
        cases ry
        obtain ⟨p1, xs, rfl, s1, r1⟩ := trkOf_at wk rx h1
        refine qo_of op_rep ⟨p1, kk, xs, rfl, rfl, s1, hl.1.1, hl.1.2, lim_le (by rw [r1.length]; exact hl.2), fun q hq => ?_⟩
        have e := W.lay_ext (o := .lst (List.replicate kk.toNat xs).flatten) hq
        exact p (.ref q) (W.lay q _ hq) e (wk.lay hq) (.lst (W.lay_nav hq) upd_same ((reps_rep r1 _).mono e))
      · exact p.elim
    · exact p.elim
  · exact p.elim
/-! ### new lists by + and * -/
def kCatL2 (x y : D) : M (List D) := fun s => match trkOf x s, trkOf y s with
  | some a, some b => if a.length + b.length ≤ LIM then .ok (a ++ b) s else .bad
  | _, _ => .bad
def kCatL (b : EM) (env : En) (x : D) : M (List D) := fun s => (b env s).bind (kCatL2 x)
def lCat (a b : EM) : AM := fun env st => (a env st).bind (kCatL b env)
noncomputable def kRepL2 (x y : D) : M (List D) := fun s => match trkOf x s, y with
  | some a, .int k => cif ((-(2 ^ 63) ≤ k ∧ k < 2 ^ 63) ∧ a.length * k.toNat ≤ LIM) (.ok (List.replicate k.toNat a).flatten s) .bad
  | _, _ => .bad
noncomputable def kRepL (b : EM) (env : En) (x : D) : M (List D) := fun s => (b env s).bind (kRepL2 x)
noncomputable def lRep (a b : EM) : AM := fun env st => (a env st).bind (kRepL b env)
theorem newL {W : Wd} {σ : L2.St} {st : Sto} {xs : List V} {ds : List D} {Q : VK} (p : PostL G W σ (.ok ds st) Q) (wk : WOk G.X.K G.ca W st) (r : Reps G.X.K G.ca W xs ds) {q : Addr} (hq : W.h q = none) : Q (.ref q) (upd W.h q (.lst xs)) := by
  have hp : (W.lay q (.lst xs) hq).h q ≠ none := by
    show upd W.h q (.lst xs) q ≠ none
    rw [upd_same]; exact fun z => by cases z
  have x := Wd.own_ext (W.lay_ext (o := .lst xs) hq) hq hp
  exact p q xs ((W.lay q (.lst xs) hq).own q hp) x hq (.inr rfl) (fun z => W.trk q (W.gav q z) hq) upd_same (wk.own hq hp) (r.mono x)
theorem twoL {f : D → D → M (List D)} {R : V → V → Hp → Prop} {σ : L2.St} {W : Wd} {env : En} {st : Sto} {Q : VK} (ha : RE G a ma) (hb : RE G b mb) (w : WOk G.X.K G.ca W st) (re : RepE G.X.K G.ca G.xc W σ env) (p : PostL G W σ ((ma env st).bind fun x s => (mb env s).bind (f x)) Q)
    (k : ∀ x y dx dy W2 s2, WOk G.X.K G.ca W2 s2 → Rep G.X.K G.ca W2 x dx → Rep G.X.K G.ca W2 y dy → PostL G W2 σ (f dx dy s2) Q → R x y W2.h) :
    QE G a σ W.h fun x H1 => QE G b σ H1 fun y H2 => R x y H2 := by
  refine ha σ W env st _ w re (bindEL p fun dx s1 x W1 e1 w1 r1 p1 => ?_)
  refine hb σ W1 env s1 _ w1 (re.mono e1) (bindEL p1 fun dy s2 y W2 e2 w2 r2 p2 => ?_)
  exact k x y dx dy W2 s2 w2 (r1.mono e2) r2 p2
theorem rl_cat (ha : RE G a ma) (hb : RE G b mb) : RL G (.BinOp a .Add b pos) (lCat ma mb) := by
  intro σ W env st Q w re p pins s I
  refine wpAny_BinOp (two_run (R := fun x y H => QO G (binaryOp .Add) σ x y H Q) (twoL (f := kCatL2) ha hb w re p fun x y dx dy W2 s2 w2 r1 r2 p2 => ?_) I fun v u s2 x y H2 I2 rx ry q => q pins s2 v u I2 rx ry)
  unfold kCatL2 at p2
  split at p2
  · rename_i c d h1 h2
    split at p2
    · rename_i hl
      obtain ⟨q1, xs, rfl, s1, t1⟩ := trkOf_at w2 r1 h1
      obtain ⟨q2, ys, rfl, s3, t2⟩ := trkOf_at w2 r2 h2
      exact qo_of op_cat ⟨q1, q2, xs, ys, rfl, rfl, s1, s3, lim_le (by rw [t1.length, t2.length]; exact hl), fun q hq => newL p2 w2 (t1.append t2) hq⟩
    · exact p2.elim
  · exact p2.elim
theorem rl_rep (ha : RE G a ma) (hb : RE G b mb) : RL G (.BinOp a .Mult b pos) (lRep ma mb) := by
  intro σ W env st Q w re p pins s I
  refine wpAny_BinOp (two_run (R := fun x y H => QO G (binaryOp .Mult) σ x y H Q) (twoL (f := kRepL2) ha hb w re p fun x y dx dy W2 s2 w2 r1 r2 p2 => ?_) I fun v u s2 x y H2 I2 rx ry q => q pins s2 v u I2 rx ry)
  unfold kRepL2 cif at p2
  split at p2
  · rename_i c kk h1
    split at p2
    · rename_i hl
      cases r2
      obtain ⟨q1, xs, rfl, s1, t1⟩ := trkOf_at w2 r1 h1
      exact qo_of op_rep ⟨q1, kk, xs, rfl, rfl, s1, hl.1.1, hl.1.2, lim_le (by rw [t1.length]; exact hl.2), fun q hq => newL p2 w2 (reps_rep t1 _) hq⟩
    · exact p2.elim
  · exact p2.elim
end
end Mi
/-! MiIn: x in y, y a text, an own instance, a list of data, a tuple of flat things. -/
namespace Mi
open PySem PySem.Spec PyProof.Rows L2
def flatD : D → Bool
  | .non => true
  | .bl _ => true
  | .int _ => true
  | .str _ => true
  | _ => false
/-- == of flat things -/
def feq : D → D → Bool
  | .non, .non => true
  | .bl a, .bl b => a == b
  | .bl a, .int b => (if a then 1 else 0) == b
  | .int a, .bl b => a == (if b then 1 else 0)
  | .int a, .int b => a == b
  | .str a, .str b => a == b
  | _, _ => false
theorem flat_rep {K : PySem.W.Frag} {ca : Nat → Addr} {W : Wd} {x : V} {d : D} (r : Rep K ca W x d) (h : flatD d = true) : flatV x = true := by
  cases r <;> first | rfl | exact Bool.noConfusion h
theorem feq_rep {K : PySem.W.Frag} {ca : Nat → Addr} {W : Wd} {x y : V} {d e : D} (r : Rep K ca W x d) (q : Rep K ca W y e) (h : flatD d = true) (k : flatD e = true) : eqV x y = feq d e := by
  cases r <;> first | exact Bool.noConfusion h | (cases q <;> first | exact Bool.noConfusion k | rfl)
theorem flats_rep {K : PySem.W.Frag} {ca : Nat → Addr} {W : Wd} : ∀ {xs : List V} {ds : List D}, Reps K ca W xs ds → ds.all flatD = true → xs.all flatV = true
  | _, _, .nil, _ => rfl
  | _, _, .cons r t, h => by
    rw [List.all_cons, Bool.and_eq_true] at h ⊢
    exact ⟨flat_rep r h.1, flats_rep t h.2⟩
theorem inV_rep {K : PySem.W.Frag} {ca : Nat → Addr} {W : Wd} {x : V} {d : D} (r : Rep K ca W x d) (hd : flatD d = true) : ∀ {xs : List V} {ds : List D}, Reps K ca W xs ds → ds.all flatD = true → inV x xs = ds.any fun z => feq z d
  | _, _, .nil, _ => rfl
  | _, _, .cons q t, h => by
    rw [List.all_cons, Bool.and_eq_true] at h
    have ih := inV_rep r hd t h.2
    unfold inV at ih ⊢
    rw [List.any_cons, List.any_cons, ih, feq_rep q r h.1 hd]
def inS (neg : Bool) : D → D → M D := fun x y st => match x, y with
  | .str a, .str b => .ok (.bl (if neg then !subS a b else subS a b)) st
  | x, .tup ds => if flatD x = true ∧ ds.all flatD = true then .ok (.bl (if neg then !(ds.any fun z => feq z x) else ds.any fun z => feq z x)) st else .bad
  | x, y => (match seqOf y st with
    | some ds => if flatD x = true ∧ ds.all flatD = true then .ok (.bl (if neg then !(ds.any fun z => feq z x) else ds.any fun z => feq z x)) st else .bad
    | none => .bad)
def inL (neg : Bool) (x y : D) : M D := fun st => match pdT x st, pdT y st with
  | some a, some (.list bs) => if SeqAt.shaped a = true ∧ SeqAt.shaped (.list bs) = true then .ok (.bl (if neg then !(bs.any fun z => PyData.eqv z a) else bs.any fun z => PyData.eqv z a)) st else .bad
  | _, _ => .bad
def inX (tab : Tab) (t : D → M Bool) (neg : Bool) : D → D → M D := fun x y st => match clsOf y st with
  | some _ => inD tab t neg x y st
  | none => (match y with
    | .str _ => inS neg x y st
    | .tup _ => inS neg x y st
    | y => inL neg x y st)
section
variable {G : Gx} {k : Nat} {tab : Tab}
theorem cd_inS : OpD G (compareOp .In) (inS false) := by
  intro σ W st x y dx dy Q wk rx ry p
  unfold inS at p
  split at p
  · cases rx; cases ry
    exact qo_of op_in_str ⟨_, _, rfl, rfl, p _ W (Ext.refl W) wk (.bl _)⟩
  · split at p
    · rename_i hf
      obtain ⟨q, ys, rfl, s1, r1⟩ := ry.sqT
      refine qo_of op_in_seq ⟨q, ys, rfl, .inr s1, flat_rep rx hf.1, flats_rep r1 hf.2, ?_⟩
      rw [inV_rep rx hf.1 r1 hf.2]
      exact p _ W (Ext.refl W) wk (.bl _)
    · exact p.elim
  · split at p
    · rename_i ds hs
      split at p
      · rename_i hf
        obtain ⟨q, ys, rfl, s1, r1⟩ := seqOf_at wk ry hs
        refine qo_of op_in_seq ⟨q, ys, rfl, .inl s1, flat_rep rx hf.1, flats_rep r1 hf.2, ?_⟩
        rw [inV_rep rx hf.1 r1 hf.2]
        exact p _ W (Ext.refl W) wk (.bl _)
      · exact p.elim
    · exact p.elim
theorem cd_ninS : OpD G (compareOp .NotIn) (inS true) := by
  intro σ W st x y dx dy Q wk rx ry p
  unfold inS at p
  split at p
  · cases rx; cases ry
    exact qo_of op_notin_str ⟨_, _, rfl, rfl, p _ W (Ext.refl W) wk (.bl _)⟩
  · split at p
    · rename_i hf
      obtain ⟨q, ys, rfl, s1, r1⟩ := ry.sqT
      refine qo_of op_notIn_seq ⟨q, ys, rfl, .inr s1, flat_rep rx hf.1, flats_rep r1 hf.2, ?_⟩
      rw [inV_rep rx hf.1 r1 hf.2]
      exact p _ W (Ext.refl W) wk (.bl _)
    · exact p.elim
  · split at p
    · rename_i ds hs
      split at p
      · rename_i hf
        obtain ⟨q, ys, rfl, s1, r1⟩ := seqOf_at wk ry hs
        refine qo_of op_notIn_seq ⟨q, ys, rfl, .inl s1, flat_rep rx hf.1, flats_rep r1 hf.2, ?_⟩
        rw [inV_rep rx hf.1 r1 hf.2]
        exact p _ W (Ext.refl W) wk (.bl _)
      · exact p.elim
    · exact p.elim
theorem cd_inX {t : D → M Bool} (tk : Takes G.X G.E) (hr : Room (k + 1) G.X.A) (ht : TabOk G k "__contains__" 2 tab) (htr : TrD G t) : OpD G (compareOp .In) (inX tab t false) := by
  intro σ W st x y dx dy Q wk rx ry p
  unfold inX at p
  split at p
  · exact cd_in tk (hr.mono (by omega)) ht htr σ W st x y dx dy Q wk rx ry p
  · split at p
    · exact cd_inS σ W st x y dx _ Q wk rx ry p
    · exact cd_inS σ W st x y dx _ Q wk rx ry p
    · unfold inL at p
      split at p
      · rename_i a bs h1 h2
        split at p
        · rename_i hs
          exact qo_of (op_inD (by have := hr.un; omega)) ⟨a, bs, pdT_at wk rx h1, pdT_at wk ry h2, hs.1, hs.2, p _ W (Ext.refl W) wk (.bl _)⟩
        · exact p.elim
      · exact p.elim
theorem cd_ninX {t : D → M Bool} (tk : Takes G.X G.E) (hr : Room (k + 1) G.X.A) (ht : TabOk G k "__contains__" 2 tab) (htr : TrD G t) : OpD G (compareOp .NotIn) (inX tab t true) := by
  intro σ W st x y dx dy Q wk rx ry p
  unfold inX at p
  split at p
  · exact cd_nin tk (hr.mono (by omega)) ht htr σ W st x y dx dy Q wk rx ry p
  · split at p
    · exact cd_ninS σ W st x y dx _ Q wk rx ry p
    · exact cd_ninS σ W st x y dx _ Q wk rx ry p
    · unfold inL at p
      split at p
      · rename_i a bs h1 h2
        split at p
        · rename_i hs
          exact qo_of (op_notInD (by have := hr.un; omega)) ⟨a, bs, pdT_at wk rx h1, pdT_at wk ry h2, hs.1, hs.2, p _ W (Ext.refl W) wk (.bl _)⟩
        · exact p.elim
      · exact p.elim
end
end Mi
/-! MiSort: sorted(xs, key=lambda row: int(row[0])). -/
namespace Mi
open PySem PySem.Spec PyProof.Rows L2
/-! ### the key: a lambda with one parameter -/
abbrev keyParams (p : Pos) : Arguments := ⟨[], [⟨"row", none, p⟩], none, [], [], none, []⟩
abbrev keyBody (p1 p2 p3 p4 p5 : Pos) : Expr := .Call (.Name "int" p1) [.Subscript (.Name "row" p2) (.Constant (.int 0) 0 p3) p4] [] p5
section
variable {prog : Program} {w : World} {A : Around} {s : Shared} {mg mb : Str → Option Value}
theorem key_call {f c' t : Addr} {q : Str} {p p1 p2 p3 p4 p5 : Pos} {scope : Scope} {pm ctv : Value} {items : Array Value} {k : Int} {tk : Tok} {oc : Obj} {vs : Array Value} {tc : Tok}
    (hr : A.depth < recursionLimit) (hf : s.heap.get? f = some (PySem.W.kla_obj "<lambda>" q (keyParams p) (keyBody p1 p2 p3 p4 p5) scope [] pm c' ctv))
    (hoc : s.heap.get? c' = some oc) (hdc : oc.data = .fields vs) (hvc : vs[1]? = some (.str q tc))
    (hk : scope.kind = .function) (hco : scope.isCoroutine = false) (hgen : scope.isGenerator = false) (hnc : ∀ y ∈ scope.names, y.2 ≠ .cell) (hx : scope.names.lookup (Str.ofString "row") = some .local) (hint : scope.names.lookup (Str.ofString "int") = some .globalImplicit)
    (lim : s.heap.NoLimit) (hg : s.heap.Ns mainGlobals mg) (hm : mg "int" = none) (hb : s.heap.Ns builtinsNs mb) (hmb : mb "int" = some (.type "int"))
    (ht : IsTup s.heap t items) (hi : items[0]? = some (.int k tk)) :
    wpAny (model prog w) A (call (.ref f) [.ref t]) (PySem.W.KeyPure (.int k) s) (fun _ _ => False) s := by
  have rc : codeAny (model prog w) A (.call (.ref f) ⟨[.ref t], []⟩) (fun r s' => ∃ u, r = .ok (.ret u) ∧ PySem.W.KeyPure (.int k) s u s') s := by
    refine PySem.W.kla_callFunE hr hf rfl hco hgen rfl ⟨c', oc, vs, tc, rfl, hoc, hdc, hvc⟩ ?_
    have hbind : bindArgs (PySem.W.kla_fn "<lambda>" q (keyParams p) (keyBody p1 p2 p3 p4 p5) scope [] pm (.ref c') ctv) ⟨[.ref t], []⟩ = pure [((Str.ofString "row"), Value.ref t)] := by rfl
    rw [hbind]
    refine wpAny_pure (wpAny_newFunctionEnv hnc (fun y hy => ?_) (fun h₁ hns hsb => ⟨lim.fresh _ hsb, ?_⟩) hk)
    · obtain rfl : y = ((Str.ofString "row"), Value.ref t) := by simpa using hy
      exact hx
    have kp : ∀ b o, s.heap.get? b = some o → h₁.get? b = some o := fun b o e => hsb.extBut b o (Nat.ne_of_lt (Heap.lt_size e)) (Heap.get?_push_of_some _ e)
    refine PySem.W.kla_codeExpr ?_
    refine wpAny_Call_Name_kw (Calls.Name_function_global hk hint (Calls.loadGlobal_builtin (hg.keeps kp) hm (hb.keeps kp) hmb ?_))
    refine PyProof.Rows.callWith_type1 ?_
    refine Calls.spliced_cons ?_
    refine Subscript_ ?_
    refine wpAny_Name ?_ rfl
    refine wpAny_loadName_local (v := Value.ref t) hk hx hns rfl ?_
    refine wpAny_Constant_int ?_
    have ht' : IsTup h₁ t items := ht.keeps kp
    have hsz : 0 < items.size := by
      cases h0 : items.size with
      | zero => rw [Array.getElem?_eq_none (by omega)] at hi; cases hi
      | succ n => omega
    refine subscriptTail_builtinR (x := .int k tk) ht'.typeIs slot_tuple_getitem.lookup (getItem_tuple (j := 0) ht' (by decide) (by decide) ?_ hi ⟨rfl, ?_⟩) ?_
    · exact seqIndex_of (by decide) (by omega)
    · refine Calls.spliced_nil (call_int_int ⟨_, rfl, _, _, rfl, kp, ?_⟩)
      constructor
    · with_unfolding_all rfl
  refine wpAny_call (codeAny_mono rc fun r s' hq => ?_)
  obtain ⟨u, rfl, hq⟩ := hq
  exact hq
end
/-! ### the sorting -/
def kOf : D → Int
  | .tup (.int i :: _) => i
  | _ => 0
def isK : D → Bool
  | .tup (.int _ :: _) => true
  | _ => false
def leK (a b : D) : Bool := decide (kOf a ≤ kOf b)
theorem isK_ex {d : D} (h : isK d = true) : ∃ i ds, d = .tup (.int i :: ds) := by
  unfold isK at h
  split at h
  · exact ⟨_, _, rfl⟩
  · cases h
section
variable {K : PySem.W.Frag} {ca : Nat → Addr} {W : Wd}
def RK (K : PySem.W.Frag) (ca : Nat → Addr) (W : Wd) (u : Value) (x : V × D) : Prop := RelV x.1 u ∧ Rep K ca W x.1 x.2 ∧ isK x.2 = true
theorem each_of : ∀ {xs : List V} {its : List Value} {ds : List D}, Vals xs its → Reps K ca W xs ds → (∀ d ∈ ds, isK d = true) → PySem.W.EachIs (RK K ca W) its (xs.zip ds)
  | _, _, _, .nil, .nil, _ => .nil
  | _, _, _, .cons r t, .cons q u, h => .cons ⟨r, q, h _ (List.mem_cons_self ..)⟩ (each_of t u fun d hd => h d (List.mem_cons_of_mem _ hd))
theorem each_vals : ∀ {out : List Value} {bs : List (V × D)}, PySem.W.EachIs (RK K ca W) out bs → Vals (bs.map (·.1)) out ∧ Reps K ca W (bs.map (·.1)) (bs.map (·.2))
  | _, _, .nil => ⟨.nil, .nil⟩
  | _, _, .cons r t => ⟨.cons r.1 (each_vals t).1, .cons r.2.1 (each_vals t).2⟩
end
section
variable {G : Gx} {W : Wd} {σ : L2.St} {st : Sto} {Q : VK}
theorem sort_fin {pins : List (Addr × Obj)} {s : Shared} {l f c' : Addr} {q : Str} {p p1 p2 p3 p4 p5 : Pos} {scope : Scope} {pm ctv : Value} {oc : Obj} {vs : Array Value} {tc : Tok} {xs : List V} {ds : List D}
    (I : Inv G.X pins σ W.h s) (wk : WOk G.X.K G.ca W st) (hr : Room 1 G.X.A) (hq : SqL G.X.K W.h l xs) (hrs : Reps G.X.K G.ca W xs ds) (hK : ∀ d ∈ ds, isK d = true)
    (hf : s.heap.get? f = some (PySem.W.kla_obj "<lambda>" q (keyParams p) (keyBody p1 p2 p3 p4 p5) scope [] pm c' ctv))
    (hoc : s.heap.get? c' = some oc) (hdc : oc.data = .fields vs) (hvc : vs[1]? = some (.str q tc))
    (hk : scope.kind = .function) (hco : scope.isCoroutine = false) (hgen : scope.isGenerator = false) (hnc : ∀ y ∈ scope.names, y.2 ≠ .cell) (hx : scope.names.lookup (Str.ofString "row") = some .local) (hint : scope.names.lookup (Str.ofString "int") = some .globalImplicit)
    (hm : G.X.mg "int" = none) (hP : PostL G W σ (.ok (ds.mergeSort leK) st) Q) :
    wpAny (model G.X.prog G.X.w) G.X.A (call (.builtin "sorted") [.ref l] [(Str.ofString "key", .ref f)]) (EP G.X pins σ Q) G.X.xe s := by
  obtain ⟨its, rv, hl, hz⟩ := I.list hq
  obtain ⟨mb, hb1, hb2⟩ := I.mod.blt
  have hun := hr.un
  refine PySem.W.sorted_key_data (fun x : V × D => PyData.int (kOf x.2)) hl.isList (each_of rv hrs hK) ?_ ?_ ?_ ?_ (ksk_s1 _ _) (fun _ => ksk_l1 _ _) (fun x => ksk_t1 f x) ?_ ?_
  · exact PySem.W.AllAlike.of fun _ _ => rfl
  · exact .inr fun d hd => by
      obtain ⟨x, _, rfl⟩ := List.mem_map.mp hd
      exact ⟨(fun z => by cases z), (fun _ z => by cases z)⟩
  · rw [List.length_zip, hrs.length, Nat.min_self, ← hrs.length]; exact hz
  · intro x _
    show G.X.A.units + 2 + PyData.depth (.int _) < _
    simp only [PyData.depth]
    omega
  · intro v x hR hx' h tk kp
    obtain ⟨h1, h2, h3⟩ := hR
    obtain ⟨i, es, hd⟩ := isK_ex h3
    rw [hd] at h2
    obtain ⟨t, ys, e1, hT, hY⟩ := h2.sqT
    rw [e1] at h1
    cases h1
    obtain ⟨its2, r2, pl, _⟩ := I.tuple hT
    obtain ⟨y, e2, ry⟩ := hY.get (i := 0) rfl
    cases ry
    obtain ⟨u, e3, ru⟩ := r2.get e2
    obtain ⟨tk', rfl⟩ := ru
    have ek : kOf x.2 = i := by rw [hd]; rfl
    rw [ek]
    exact key_call (s := { s with heap := h, toks := tk }) (mg := G.X.mg) (mb := mb) (items := its2.toArray) (tk := tk') (by have := hr.dp; show G.X.A.depth < _; omega) (kp _ _ hf) (kp _ _ hoc) hdc hvc hk hco hgen hnc hx hint (I.nolimit.keeps kp) ((I.mod.glob.keeps I.bk).keeps kp) hm ((hb1.keeps I.bk).keeps kp) ((hb2 _ (by decide)).trans rfl) (pl.keeps kp) (by simpa using e3)
  · intro out c h' tk kp fr hD hlen ho
    rw [PySem.W.dataLe_int] at ho
    obtain ⟨v1, v2⟩ := each_vals ho
    have em : ((xs.zip ds).mergeSort fun a b => decide (kOf a.2 ≤ kOf b.2)).map (·.2) = ds.mergeSort leK := by
      rw [List.map_mergeSort (r := fun a b : V × D => decide (kOf a.2 ≤ kOf b.2)) (s := leK) (f := fun x => x.2) (fun a _ b _ => rfl), List.map_snd_zip (by rw [hrs.length]; exact Nat.le_refl _)]
    rw [em] at v2
    have hn : W.h (s.heap.objs.size + 1) = none := I.hok.fresh (Nat.le_succ _)
    generalize (((xs.zip ds).mergeSort fun a b => decide (kOf a.2 ≤ kOf b.2)).map (·.1)) = ys at v1 v2
    have hp : (W.lay (s.heap.objs.size + 1) (.lst ys) hn).h (s.heap.objs.size + 1) ≠ none := by
      show upd W.h (s.heap.objs.size + 1) (.lst ys) (s.heap.objs.size + 1) ≠ none
      rw [upd_same]; exact fun z => by cases z
    have x := Wd.own_ext (W.lay_ext (o := .lst ys) hn) hn hp
    refine ⟨.ref (s.heap.objs.size + 1), upd W.h (s.heap.objs.size + 1) (.lst ys), I.laid (t' := tk) kp (Nat.le_succ _) ⟨?_, out, c, v1, hD⟩, rfl, hP _ ys ((W.lay (s.heap.objs.size + 1) (.lst ys) hn).own (s.heap.objs.size + 1) hp) x hn (.inr rfl) (fun z => W.trk _ (W.gav _ z) hn) upd_same (wk.own hn hp) (v2.mono x)⟩
    rw [v1.length, hlen, List.length_zip, hrs.length, Nat.min_self, ← hrs.length]
    exact hz
end
/-! ### the lambda is made -/
section
variable {K : PySem.W.Frag} {ca : Nat → Addr} {W : Wd} {st : Sto}
/-- a code object joins the table -/
def Wd.lam (W : Wd) (P c' : Addr) (ps : Array Value) (q : Str) : Wd where
  av := W.av
  g := W.g
  h := upd (upd W.h P (.tbl ps)) c' (LamX.CodeO c' q)
  trk := fun p h => by
    by_cases e : p = c'
    · rw [e, upd_same]; exact fun z => by cases z
    · rw [upd_ne e]
      by_cases e2 : p = P
      · rw [e2, upd_same]; exact fun z => by cases z
      · rw [upd_ne e2]; exact W.trk p h
  gav := W.gav
theorem lam_world {i n : Nat} {q : Str} {c' : Addr} {ps more : Array Value} (wk : WOk K ca W st) (hi : st[i]? = some (.tab n q)) (hg : W.g[i]? = some (ca n)) (hP : W.h (ca n) = some (.tbl ps)) (nC : W.h c' = none)
    (ht : TriplesOk (ps ++ more).toList) (ha : ∀ (pos : Pos) (cv : Value), codeAmong pos (ps ++ more).toList = some cv → cv = .ref c' ∨ ∃ c, cv = .ref c ∧ ¬ W.av c ∧ W.h c = some (LamX.CodeO c q)) :
    Ext W (W.lam (ca n) c' (ps ++ more) q) ∧ WOk K ca (W.lam (ca n) c' (ps ++ more) q) st := by
  have nPc : ca n ≠ c' := fun z => by rw [z, nC] at hP; cases hP
  have avP : W.av (ca n) := W.gav _ (List.mem_of_getElem? hg)
  have navC : ¬ W.av c' := fun z => W.trk _ z nC
  have same : ∀ p, p ≠ ca n → p ≠ c' → (W.lam (ca n) c' (ps ++ more) q).h p = W.h p := fun p h1 h2 => by
    show upd (upd W.h (ca n) (.tbl (ps ++ more))) c' (LamX.CodeO c' q) p = _
    rw [upd_ne h2, upd_ne h1]
  have ex : Ext W (W.lam (ca n) c' (ps ++ more) q) := {
    keep := fun p o na e => (same p (fun z => na (z ▸ avP)) (fun z => by rw [z, nC] at e; cases e)).trans e
    own := fun p av ng => same p (fun z => ng (z ▸ List.mem_of_getElem? hg)) (fun z => navC (z ▸ av))
    av := fun p h => h
    new := fun p h => .inl h
    stay := fun p h => by
      by_cases e : p = c'
      · rw [e]; exact nC
      · by_cases e2 : p = ca n
        · exfalso
          rw [e2] at h
          have h : upd (upd W.h (ca n) (.tbl (ps ++ more))) c' (LamX.CodeO c' q) (ca n) = none := h
          rw [upd_ne nPc, upd_same] at h
          cases h
        · rw [← same p e2 e]; exact h
    pre := ⟨[], by show W.g = W.g ++ []; simp, fun _ h => by simp at h⟩ }
  refine ⟨ex, wk.nd, wk.len, fun j p c hj hc => ?_⟩
  have hj : W.g[j]? = some p := hj
  by_cases e : p = ca n
  · subst e
    have eij : i = j := nd_ix wk.nd hg hj
    subst eij
    rw [hi] at hc
    cases hc
    refine ⟨rfl, ps ++ more, ?_, ht, fun pos cv hcv => ?_⟩
    · show upd (upd W.h (ca n) (.tbl (ps ++ more))) c' (LamX.CodeO c' q) (ca n) = _
      rw [upd_ne nPc, upd_same]
    · rcases ha pos cv hcv with z | ⟨c, e1, n1, e2⟩
      · exact ⟨c', z, navC, upd_same⟩
      · exact ⟨c, e1, n1, ex.keep c _ n1 e2⟩
  · have nc : p ≠ c' := fun z => by
      have := W.trk p (W.gav p (List.mem_of_getElem? hj))
      rw [z] at this
      exact this nC
    exact (wk.cell j p c hj hc).mono ex (same p e nc)
end
section
variable {G : Gx} {e : Expr} {aa : AM} {p pp p1 p2 p3 p4 p5 lpos kpos pos : Pos} {scope : Scope}
def kSortK (i n : Nat) (q : Str) (ds : List D) : M (List D) := fun st => match ds with
  | [d] => (match seqOf d st with
    | some ds => (match st[i]? with
      | some (.tab m r) => if (m = n ∧ r = q) ∧ ds.all isK = true then .ok (ds.mergeSort leK) st else .bad
      | _ => .bad)
    | none => .bad)
  | _ => .bad
def lSortK (i n : Nat) (q : Str) (aa : AM) : AM := fun env st => (aa env st).bind (kSortK i n q)
theorem rl_sortK {i n : Nat} {q : Str} {c : Addr} (ha : RA G [e] aa) (hg : Gl G.X (Str.ofString "sorted")) (hm : G.X.mg (Str.ofString "sorted") = none) (hm' : G.X.mg (Str.ofString "int") = none) (hr : Room 1 G.X.A) (TB : LamX.TabB G.X.base G.X.mg c (G.ca n)) (hcode : G.X.env.code = .ref c) (hqq : G.X.env.qual ++ Str.ofString "<lambda>" = q)
    (hk : scope.kind = .function) (hco : scope.isCoroutine = false) (hgen : scope.isGenerator = false) (hnc : ∀ y ∈ scope.names, y.2 ≠ .cell) (hnf : ∀ y ∈ scope.names, y.2 ≠ .free) (hcl : ∀ cells, cloFrom cells scope.names [] = []) (hx : scope.names.lookup (Str.ofString "row") = some .local) (hint : scope.names.lookup (Str.ofString "int") = some .globalImplicit)
    (he : backTo pos (starEach [e] G.X.env) = (false, eval e G.X.env) :: backTo pos (starEach [] G.X.env) := by rfl) (hpl : (backTo pos (starEach [e] G.X.env)).any (·.1) = false := by rfl) :
    RL G (.Call (.Name (Str.ofString "sorted") p) [e] [⟨some (Str.ofString "key"), .Lambda (keyParams pp) (keyBody p1 p2 p3 p4 p5) scope lpos, kpos⟩] pos) (lSortK i n q aa) := by
  subst hqq
  intro σ W env st Q wk re hp pins s I
  refine wpAny_Call_Name_kw (ld_blt I hg hm (u := .builtin "sorted") rfl ?_ (by decide) (by decide))
  let R : List V → Hp → Prop := fun vs H => ∀ pins s us, Inv G.X pins σ H s → Vals vs us → wpAny (model G.X.prog G.X.w) G.X.A (evalAll ((backToKw pos (keywordEach [⟨some (Str.ofString "key"), .Lambda (keyParams pp) (keyBody p1 p2 p3 p4 p5) scope lpos, kpos⟩] G.X.env)).map (·.2)))
      (fun kvs s₂ => wpAny (model G.X.prog G.X.w) G.X.A (call (.builtin "sorted") us (((backToKw pos (keywordEach [⟨some (Str.ofString "key"), .Lambda (keyParams pp) (keyBody p1 p2 p3 p4 p5) scope lpos, kpos⟩] G.X.env)).filterMap (·.1)).zip kvs)) (EP G.X pins σ Q) G.X.xe s₂) G.X.xe s
  refine PyProof.Rows.callWith_kw (thn (ha σ W env st R wk re (bindAL hp fun ds s1 vs W1 e1 w1 r1 hp1 => ?_) pos pins s I) fun us s1 hu => ?_) he hpl rfl rfl
  · intro pins s us I rv
    unfold kSortK at hp1
    split at hp1
    case h_2 => exact hp1.elim
    rename_i d
    cases r1 with
    | cons rd rr =>
      cases rr
      cases rv with
      | cons rl rr2 =>
      cases rr2
      cases hs : seqOf d s1 with
      | none => rw [hs] at hp1; exact hp1.elim
      | some es =>
      rw [hs] at hp1
      dsimp only at hp1
      split at hp1
      case h_2 => exact hp1.elim
      rename_i m r hst
      split at hp1
      case isFalse => exact hp1.elim
      rename_i hc
      obtain ⟨⟨rfl, rfl⟩, hall⟩ := hc
      have hK : ∀ d ∈ es, isK d = true := fun d hd => List.all_eq_true.mp hall d hd
      have hil : i < W1.g.length := by rw [w1.len]; exact (List.getElem?_eq_some_iff.mp hst).1
      obtain ⟨hcn, ps, hP, ht, ham⟩ := w1.cell i W1.g[i] _ (List.getElem?_eq_getElem hil) hst
      have hgi : W1.g[i]? = some (G.ca m) := by rw [List.getElem?_eq_getElem hil, hcn]
      rw [hcn] at hP
      refine kws_cons (PySem.W.kla_eval rfl ?_)
      have bP : s.heap.BuiltinsAt G.X.mg (G.ca m) := TB.bm.keeps I.bk
      have hP' : s.heap.get? (G.ca m) = some { cls := .none, data := .fields ps } := I.hok _ _ hP
      have hfree : ∀ y ∈ scope.names, y.2 = .free → ∃ c, G.X.env.cells.lookup y.1 = some c := fun y hy z => absurd z (hnf y hy)
      have hclo : closureFor scope G.X.env = pure [] := by rw [closure_ok hfree, hcl]
      cases hcm : codeAmong lpos ps.toList with
      | none =>
        refine PySem.W.kla_makeFunction (mg := G.X.mg) (c := c) (P := G.ca m) (ps := ps) hclo I.ok.glob (I.mod.glob.keeps I.bk) hcode (TB.code.keeps I.bk) hP' ht hcm TB.gP bP fun c' ctv h' tk hx2 hge hlt hrec htb => ?_
        obtain ⟨c2, oc, vs2, t2, e2, hoc, hd, hv⟩ := hrec
        cases e2
        have nC : W1.h c' = none := I.hok.fresh hge
        have I1 := LamX.inv_table (t' := tk) (more := #[rawInt lpos.line, rawInt lpos.col, .ref c']) (h' := h'.push (PySem.W.kla_obj "<lambda>" (G.X.env.qual ++ "<lambda>") (keyParams pp) (keyBody p1 p2 p3 p4 p5) scope [] ((G.X.mg "__name__").getD .none) c' ctv)) I hP
          (fun b o hb e => Heap.get?_push_of_some _ (hx2 b o hb e)) (Heap.get?_push_of_some _ htb) hge ⟨oc, vs2, t2, Heap.get?_push_of_some _ hoc, hd, hv⟩
        have eL : (ps ++ #[rawInt lpos.line, rawInt lpos.col, .ref c']).toList = ps.toList ++ [rawInt lpos.line, rawInt lpos.col, .ref c'] := by simp
        obtain ⟨ex, w2⟩ := lam_world (more := #[rawInt lpos.line, rawInt lpos.col, .ref c']) w1 hst hgi hP nC (by rw [eL]; exact PySem.TriplesOk_snoc _ _ _ _ ht) (fun pos cv hcv => by
          rw [eL] at hcv
          rcases LamX.among_app _ ht hcv with z | z
          · exact .inr (ham pos cv z)
          · exact .inl z)
        obtain ⟨l, xs, rfl, hq, hrs⟩ := seqOf_at w2 (rd.mono ex) hs
        cases rl
        refine kws_nil ?_
        exact sort_fin (W := W1.lam (G.ca m) c' (ps ++ #[rawInt lpos.line, rawInt lpos.col, .ref c']) (G.X.env.qual ++ "<lambda>")) (st := s1) I1 w2 hr hq hrs hK (Heap.get?_push_size _ rfl) (Heap.get?_push_of_some _ hoc) hd hv hk hco hgen hnc hx hint hm' (hp1.mono ex)
      | some cv =>
        obtain ⟨c', rfl, nav, hco2⟩ := ham lpos cv hcm
        refine PySem.W.kla_makeFunctionHit (mg := G.X.mg) (c := c) (P := G.ca m) (ps := ps) hclo I.ok.glob (I.mod.glob.keeps I.bk) hcode (TB.code.keeps I.bk) hP' ht hcm bP fun ctv h' tk hx2 hsz => ?_
        obtain ⟨⟨oc, vs2, t2, hoc, hd, hv⟩, _, _⟩ := I.hok c' _ hco2
        have I1 : Inv G.X pins σ W1.h { s with heap := h'.push (PySem.W.kla_obj "<lambda>" (G.X.env.qual ++ "<lambda>") (keyParams pp) (keyBody p1 p2 p3 p4 p5) scope [] ((G.X.mg "__name__").getD .none) c' ctv), toks := tk } := I.kept fun b o e => Heap.get?_push_of_some _ (hx2 b o e)
        obtain ⟨l, xs, rfl, hq, hrs⟩ := seqOf_at w1 rd hs
        cases rl
        refine kws_nil ?_
        exact sort_fin (W := W1) (st := s1) I1 w1 hr hq hrs hK (Heap.get?_push_size _ rfl) (Heap.get?_push_of_some _ (hx2 _ _ hoc)) hd hv hk hco hgen hnc hx hint hm' hp1
  · obtain ⟨vs, H1, I1, r1, q1⟩ := hu
    exact q1 pins s1 us I1 r1
end
end Mi
/-! MiTab: defs that make lambdas; the end of a law with one table of code objects. -/
namespace Mi
open PySem PySem.Spec PyProof.Rows L2
section
variable {P : Program} {w : World} {K : PySem.W.Frag} {mg : Str → Option Value} {base : Heap} {ca : Nat → Addr} {x qual : Str} {st : Stmt} {dvs : List V} {f : Addr} {fd : FuncData} {N ps : List Str} {k c : Nat} {b : SM}
/-- the body knows its own code object -/
theorem fn_okC (F : FD K x qual st dvs f fd) (S : FnScope N ps (defScope st))
    (hb : ∀ (cdv : Value), fd.code = cdv → ∀ (A : Around) (outer : List Env) (s : Shared) (H : Hp) (E : XK), Room k (A.deeper (envOfC qual (defScope st) s.heap.objs.size f cdv)) → RSs (gx P w K mg base ca N qual (defScope st) f cdv A outer s H E) (defBody st) b) :
    FnOk P w K mg base (L2.CX P w) (k + 1) f fd ps (spM K ca ps.length (runBody N.length b)) := by
  obtain ⟨oc, od, dV, kV, doc, pm, an, cdv, ct, osl, rfl, lk, hcd, _, _⟩ := F.ex
  refine fn_of lk hcd S (fun vs H Q E h => ?_) fun A outer s H vs Q E hr h => ⟨QSs (gx P w K mg base ca N qual (defScope st) f cdv A outer s H E) (defBody st), pss_q (G := gx P w K mg base ca N qual (defScope st) f cdv A outer s H E), ?_⟩
  · obtain ⟨W, sto, ds, _, _, r, hl, _⟩ := h
    rw [r.length, hl]
  · obtain ⟨W, sto, ds, rfl, wk, r, hl, p⟩ := h
    refine hb cdv rfl A outer s W.h E hr (L2.start N vs) W (env0 N.length ds) sto _ wk (repE_start r) ?_
    have no : ∀ i p, ¬ Own (L2.start N vs) (env0 N.length ds) i p := fun i p => env0_own
    unfold runBody at p
    cases hm : b (env0 N.length ds) sto with
    | nx env' st' => rw [hm] at p; exact fun σ' W' x w' _ => p .non W' (x.ext no) w' .non
    | rt d st' => rw [hm] at p; exact fun v W' x w' r' => p v W' (x.ext no) w' r'
    | bk env' st' => rw [hm] at p; exact p.elim
    | ct env' st' => rw [hm] at p; exact p.elim
    | exc env' c fs st' => rw [hm] at p; exact fun σ' dd W' x w' _ rx => p dd W' (x.ext no) w' rx
    | bad => rw [hm] at p; exact p
theorem tabIn_code {x : Str} {oc : Value} {od : Option Addr} {osl : Array (Option Value)} {cT aT : Addr} (h1 : PySem.W.nsIn K mainGlobals x = some (some (.ref f))) (h2 : K.lookup f = some ⟨oc, od, .func fd, osl⟩) (h : PySem.W.tabIn K x = some (cT, aT)) : fd.code = .ref cT := by
  unfold PySem.W.tabIn at h
  rw [h1] at h
  dsimp only at h
  rw [h2] at h
  dsimp only at h
  split at h
  · rename_i c hc
    split at h
    · split at h
      · cases h; exact hc
      · cases h
    · cases h
  · cases h
end
/-! ### the end -/
def spLawT (m : List D → M D) (n : Nat) (T : Addr) (K : PySem.W.Frag) : Sp := fun vs H Q E => vs.length = 1 ∧ ∀ ca : Nat → Addr, ca n = T → spM K ca 1 m vs H Q E
theorem law_fnT {P : Program} {w : World} {K : PySem.W.Frag} {mg : Str → Option Value} {base : Heap} {ca : Nat → Addr} {k n : Nat} {f T : Addr} {fd : FuncData} {ps : List Str} {m : List D → M D} (hT : ca n = T) (F : FnOk P w K mg base (L2.CX P w) k f fd ps (spM K ca 1 m)) : FnOk P w K mg base (L2.CX P w) k f fd ps (spLawT m n T K) :=
  F.imp fun vs H Q E h => h.2 ca hT
theorem law_spT {m : List D → M D} {K : PySem.W.Frag} {H : Hp} {a T : Addr} {ns : List Int} {n : Nat} {q : Str} (hm : ∃ st, m [.fix (ns.map D.int)] [.tab n q] = .ok (.bl true) st) (hT : H T = some (.tbl #[])) (hS : SqL K H a (ns.map V.int)) : spLawT m n T K [.ref a] H (fun v _ => v = .bl true) fun _ _ _ => False := by
  refine ⟨rfl, fun ca hca => ?_⟩
  obtain ⟨st, hm⟩ := hm
  refine ⟨⟨fun p => p = T, [T], H, (fun p h => by rw [h, hT]; exact (fun z => by cases z)), (fun p h => by simpa using h)⟩, [.tab n q], [.fix (ns.map D.int)], rfl, ⟨by simp, rfl, fun j p c h1 h2 => ?_⟩, .cons ?_ .nil, rfl, ?_⟩
  · cases j with
    | succ j => simp at h1
    | zero =>
      have e1 : T = p := by simpa using h1
      have e2 : Cl.tab n q = c := by simpa using h2
      subst e1
      subst e2
      refine ⟨hca.symm, #[], hT, True.intro, fun pos cv hc => ?_⟩
      have z : codeAmong pos [] = some cv := hc
      simp [codeAmong] at z
  · rcases hS with h | h
    · refine .fix (fun z => ?_) h (reps_ints ns)
      have z : a = T := z
      rw [z] at h
      rcases h with h | ⟨o, h⟩ <;> · rw [hT] at h; cases h
    · exact .fixK (.inr h) (reps_ints ns)
  · rw [hm]
    intro v W' _ _ r
    cases r
    rfl
theorem law_walkT {l : PySem.W.OpenLaw} {q : Program} {loose : List Str} {XP : (Str → Option Value) → Heap → Prop} {YP : World → Heap → Prop} {d dy : DefRec} {K : Params → PySem.W.Frag} {k n : Nat} {x y qn : Str} {m : List D → M D} (hn : l.most = some 63) (hdf : d.params.defaults = []) (hr : Room k callerA)
    (hm : ∀ ns : List Int, ns.length ≤ 63 → ∃ st, m [.fix (ns.map D.int)] [.tab n qn] = .ok (.bl true) st)
    (hY : ∀ (w : World) (h : Heap), YP w h → (K w.params).In h)
    (hrec : (recsOf q).find? (fun e => e.name == y) = some dy)
    (F : ∀ (w : World) (mg : Str → Option Value) (fa : Addr) (h : Heap), (K w.params).In h → h.Ns mainGlobals mg → mg d.name = some (.ref fa) → ∃ cT aT, PySem.W.tabIn (K w.params) y = some (cT, aT) ∧ (K w.params).lookup aT = none ∧
      ∃ fd : FuncData, (∀ (s : Shared) (u : Value), BindsTo s fd ⟨[u], []⟩ [(x, u)]) ∧ ∀ base : Heap, (K w.params).In base → base.Ns mainGlobals mg → LamX.TabB base mg cT aT → FnOk l.prog w (K w.params) mg base (L2.CX l.prog w) k fa fd [x] (spLawT m n aT (K w.params))) :
    PySem.W.WalkO q loose XP YP l.row.toRowW d [] (fun f vs => PySem.call f vs) := by
  refine Att.attach_callB hn hdf fun w s₀ s₁ mg mb fa o pm cd doc a vs ns G Y ho hd hcd hmg hobj hints hlen hbits hg => ?_
  have KX := hY w _ Y
  obtain ⟨cT, aT, hT, nT, fd, hb, hF⟩ := F w mg fa _ KX G.T.g hmg
  obtain ⟨C, gT⟩ := PySem.W.tab_of G.T KX hrec hT
  refine LamX.law_callTs (cs := [(cT, aT)]) KX G.T.g G.T.b G.T.builtins G.T.nolimit hg (fun p hp => ?_) (fun p hp => ?_) (fun p hp => ?_) G.T.bmain hobj hints (Nat.le_trans hlen (by decide)) hr (fun base h1 h2 h3 => hF base h1 h2 (h3 _ (List.mem_singleton.mpr rfl))) hb (fun H hH hS => law_spT (hm ns hlen) (hH (cT, aT) (List.mem_singleton.mpr rfl)) hS) fun H e s' z => ?_
  · obtain rfl := List.mem_singleton.mp hp; exact gT
  · obtain rfl := List.mem_singleton.mp hp; exact nT
  · obtain rfl := List.mem_singleton.mp hp; exact C
  · obtain ⟨_, _, _, _, _, _, _, _, _, _, _, _, z⟩ := z
    exact z
end Mi
/-! MiZip: own __call__; enumerate and zip, also of an own class with __iter__ over a list. -/
namespace Mi
open PySem PySem.Spec PyProof.Rows L2 ItX
/-! ### f(e, ..), f an own instance -/
def kCallO (n : Nat) (g : List D → M D) (x : D) (ds : List D) : M D := fun st => if ds.length + 1 = n then g (x :: ds) st else .bad
def kCallA (tab : Tab) (n : Nat) (aa : AM) (env : En) (x : D) : M D := fun s => match x with
  | .ins c _ => (match tab.lookup c with
    | some g => (aa env s).bind (kCallO n g x)
    | none => .bad)
  | _ => .bad
def eCallO (tab : Tab) (n : Nat) (f : EM) (aa : AM) : EM := fun env st => (f env st).bind (kCallA tab n aa env)
section
variable {G : Gx} {k n : Nat} {tab : Tab} {fe e : Expr} {es : List Expr} {mf : EM} {aa : AM} {pos : Pos}
theorem re_callO (tk : Takes G.X G.E) (hr : Room k G.X.A) (ht : TabOk G k "__call__" n tab) (hfn : ∀ c g, tab.lookup c = some g → ∀ f, PySem.W.findIn G.X.K (.ref (G.ca c)) "__call__" = some (some (.ref f)) → PySem.W.fnIn G.X.K f = true)
    (hf : RE G fe mf) (ha : RA G (e :: es) aa)
    (hev : eval (.Call fe (e :: es) [] pos) G.X.env = (do callWith pos (← eval fe G.X.env) [] (backTo pos (starEach (e :: es) G.X.env)) (backToKw pos (keywordEach [] G.X.env))) := by rfl)
    (he : starEach (e :: es) G.X.env = (false, eval e G.X.env) :: starEach es G.X.env := by exact starEach_ns rfl) (hpl : (backTo pos (starEach es G.X.env)).any (·.1) = false := by exact plain_ns rfl) : RE G (.Call fe (e :: es) [] pos) (eCallO tab n mf aa) := by
  intro σ W env st Q wk re hp pins s I
  refine Call_ (thn (hf σ W env st (fun x H => ∃ a : Addr, x = .ref a ∧ QA G (e :: es) σ H fun vs H2 => ∃ (c : Nat) (g : List D → M D) (dx : Addr) (ws : List (Str × V)) (W2 : Wd) (s2 : Sto) (d : D) (ds : List D), tab.lookup c = some g ∧ H2 = W2.h ∧ H2 a = some (.ins (G.ca c) dx ws) ∧ WOk G.X.K G.ca W2 s2 ∧ Reps G.X.K G.ca W2 (.ref a :: vs) (d :: ds) ∧ ds.length + 1 = n ∧ Post G W2 σ (g (d :: ds) s2) Q) wk re ?_ pins s I) fun u s1 hu => ?_) hev
  · refine bindEE hp fun d s1 x W1 e1 w1 r1 p1 => ?_
    unfold kCallA at p1
    split at p1
    case h_2 => exact p1.elim
    rename_i c fs
    cases hg : tab.lookup c with
    | none => rw [hg] at p1; exact p1.elim
    | some g =>
      rw [hg] at p1
      cases r1 with
      | ins nn hh rf =>
      refine ⟨_, rfl, ha σ W1 env s1 _ w1 (re.mono e1) (bindAE p1 fun ds s2 vs W2 e2 w2 r2 p2 => ?_)⟩
      unfold kCallO at p2
      by_cases hl : ds.length + 1 = n
      · rw [if_pos hl] at p2
        exact ⟨c, g, _, _, W2, s2, _, ds, hg, rfl, e2.keep _ _ nn hh, w2, .cons ((Rep.ins nn hh rf).mono e2) r2, hl, p2⟩
      · rw [if_neg hl] at p2; exact p2.elim
  · obtain ⟨x, H1, I1, rx, a, rfl, q⟩ := hu
    obtain rfl : u = Value.ref a := rx
    refine StX.callO_with (thn (q pos pins s1 I1) fun us s2 hv => ?_) he hpl
    obtain ⟨vs, H2, I2, rv, c, g, dx, ws, W2, st2, d, ds, hg, rfl, hins, w2, r2, hl, p2⟩ := hv
    obtain ⟨f, D1, f1, f2, f3⟩ := ht c g hg
    obtain ⟨mA, O, _⟩ := ins_get I2.hok hins
    obtain ⟨od, J, _⟩ := O.look
    refine ⟨⟨_, _, _, J, rfl⟩, ?_⟩
    exact wpAny_call (PySem.W.kco_code I2.kIn J rfl f1 f2 (hfn c g hg f f1) (D1.code tk hr rfl w2 r2 hl p2 I2 (.cons rfl rv)))
end
/-! ### enumerate and zip made -/
section
variable {prog : Program} {w : World} {A : Around} {E : Value → Shared → Prop} {s : Shared}
abbrev enumObj (it : Addr) : Obj := { cls := .type "enumerate", data := .fields #[.none, .bool false, .ref it, rawInt 0, .none, .none] }
theorem call_enumO {q : Addr} {P : Addr → Shared → Prop} {Q : Value → Shared → Prop} (hit : ∀ (Q : Value → Shared → Prop) (E : Value → Shared → Prop), (∀ it s', P it s' → Q (.ref it) s') → wpAny (model prog w) A.in1.in1 (pyIter (.ref q)) Q E s)
    (h : ∀ it s', P it s' → Q (.ref s'.heap.objs.size) { s' with heap := s'.heap.push (enumObj it) }) : wpAny (model prog w) A (call (.type "enumerate") [.ref q]) Q E s := by
  refine callType_codes (T := "enumerate") (Bi := Builtin.«object.__init__») (Q₁ := fun r s₁ => ∃ it s', P it s' ∧ r = .ref s'.heap.objs.size ∧ s₁ = { s' with heap := s'.heap.push (enumObj it) }) PySem.F.called_enumerate (PySem.F.typeCall_enumerate_1 _) PySem.F.entry_object_init ?_ ?_
  · refine codeAny_of_tree ?_
    show wpAny _ A.in1.in1 (do checkBuiltinCall "enumerate.__new__" ⟨[.type "enumerate", .ref q], []⟩; again (.builtin "enumerate.__new__" ⟨[.type "enumerate", .ref q], []⟩)) _ _ s
    refine wpAny_bind (wpAny_of_eq (PySem.F.newCall_enumerate_1 _) (wpAny_pure ⟨plainId_quiet (by decide +kernel) _, codeAny_builtin PySem.F.entry_enumerate_new ?_⟩))
    rw [Around.under_plainId (by decide +kernel) _]
    have hsub := sub_enumerate
    obtain ⟨hp, g, d, tk, os⟩ := s
    have hit' : ∀ {Q : Value → Shared → Prop} {E : Value → Shared → Prop}, (∀ it s', P it s' → Q (.ref it) s') → wpAny (model prog w) A.in1.in1 (pyIter (.ref q)) Q E ⟨hp, g, d, tk, os⟩ := fun h => hit _ _ h
    wp_walk
    refine wpAny_stack_any fun st => wpAny_pure ?_
    split
    · rename_i c _ _ _ _ _
      cases (c == Value.type "enumerate")
      · wp_walk using hit'
        intro it s' p
        obtain ⟨hp', g', d', tk', os'⟩ := s'
        wp_walk
        exact ⟨it, _, p, rfl, rfl⟩
      · wp_walk using hit'
        intro it s' p
        obtain ⟨hp', g', d', tk', os'⟩ := s'
        wp_walk
        exact ⟨it, _, p, rfl, rfl⟩
    · wp_walk using hit'
      intro it s' p
      obtain ⟨hp', g', d', tk', os'⟩ := s'
      wp_walk
      exact ⟨it, _, p, rfl, rfl⟩
  · rintro obj s₁ ⟨it, s', p, rfl, rfl⟩
    exact ⟨⟨_, Heap.get?_push_size _ rfl, rfl⟩, PySem.F.args_object_init_2 _ _, object_init_meets PySem.F.called_enumerate.init.lookup PySem.F.called_enumerate.made (by decide) prog w A.in1 _ _ ⟨⟨_, Heap.get?_push_size _ rfl, rfl⟩, rfl, h it s' p⟩⟩
abbrev zipP (a b : Value) : Obj := { cls := .type "tuple", data := .seq #[a, b] }
abbrev zipO (TI TO : Addr) : Obj := { cls := .type "zip", data := .fields #[.none, .bool false, .bool false, .ref TI, .ref TO] }
abbrev litO (l : Addr) : Obj := { cls := .type "list_iterator", data := .fields #[.ref l, .int 0 0] }
abbrev zipHp (h : Heap) (it l2 : Addr) : Heap := (((h.push (litO l2)).push (zipP (.ref it) (.ref h.objs.size))).push (zipP .none .none)).push (zipO (h.objs.size + 1) (h.objs.size + 2))
theorem call_zipO {q l2 : Addr} {P : Addr → Shared → Prop} {Q : Value → Shared → Prop} (hit : ∀ (Q : Value → Shared → Prop) (E : Value → Shared → Prop), (∀ it s', P it s' → Q (.ref it) s') → wpAny (model prog w) A.in1.in1 (pyIter (.ref q)) Q E s)
    (hl2 : ∀ it s', P it s' → ∃ ys, s'.heap.IsList l2 ys)
    (h : ∀ it s', P it s' → Q (.ref (s'.heap.objs.size + 3)) { s' with heap := zipHp s'.heap it l2 }) : wpAny (model prog w) A (call (.type "zip") [.ref q, .ref l2]) Q E s := by
  have sz : ∀ (h : Heap) (it : Addr), (((h.push (litO l2)).push (zipP (.ref it) (.ref h.objs.size))).push (zipP .none .none)).objs.size = h.objs.size + 3 := fun h it => by rw [Heap.size_push, Heap.size_push, Heap.size_push]
  have top : ∀ (h : Heap) (it : Addr), (zipHp h it l2).get? (h.objs.size + 3) = some (zipO (h.objs.size + 1) (h.objs.size + 2)) := fun h it => by
    have := Heap.get?_push_size (((h.push (litO l2)).push (zipP (.ref it) (.ref h.objs.size))).push (zipP .none .none)) (o := zipO (h.objs.size + 1) (h.objs.size + 2)) rfl
    rw [sz] at this
    exact this
  refine callType_codes (T := "zip") (Bi := Builtin.«object.__init__») (Q₁ := fun r s₁ => ∃ it s', P it s' ∧ r = .ref (s'.heap.objs.size + 3) ∧ s₁ = { s' with heap := zipHp s'.heap it l2 }) PySem.F.called_zip (PySem.F.typeCall_zip_2 _ _) PySem.F.entry_object_init ?_ ?_
  · refine codeAny_of_tree ?_
    show wpAny _ A.in1.in1 (do checkBuiltinCall "zip.__new__" ⟨[.type "zip", .ref q, .ref l2], []⟩; again (.builtin "zip.__new__" ⟨[.type "zip", .ref q, .ref l2], []⟩)) _ _ s
    refine wpAny_bind (wpAny_of_eq (PySem.F.newCall_zip_2 _ _) (wpAny_pure ⟨plainId_quiet (by decide +kernel) _, codeAny_builtin PySem.F.entry_zip_new ?_⟩))
    rw [Around.under_plainId (by decide +kernel) _]
    have hsub := sub_zip
    obtain ⟨hp, g, d, tk, os⟩ := s
    have hit' : ∀ {Q : Value → Shared → Prop} {E : Value → Shared → Prop}, (∀ it s', P it s' → Q (.ref it) s') → wpAny (model prog w) A.in1.in1 (pyIter (.ref q)) Q E ⟨hp, g, d, tk, os⟩ := fun h => hit _ _ h
    wp_walk using hit'
    intro it s' p
    obtain ⟨ys, hL⟩ := hl2 it s' p
    obtain ⟨hp', g', d', tk', os'⟩ := s'
    have hL2 : Heap.IsList (Shared.heap ⟨hp', g', d', tk', os'⟩) l2 ys := hL
    wp_walk using wpAny_pyIter_list hL2
    refine ⟨it, _, p, ?_, ?_⟩
    · simp [Heap.size_push]
    · simp [Heap.size_push]
      rfl
  · rintro obj s₁ ⟨it, s', p, rfl, rfl⟩
    exact ⟨⟨_, top _ it, rfl⟩, PySem.F.args_object_init_3 _ _ _, object_init_meets PySem.F.called_zip.init.lookup PySem.F.called_zip.made (by decide) prog w A.in1 _ _ ⟨⟨_, top _ it, rfl⟩, rfl, h it s' p⟩⟩
end
/-! ### the walks -/
/-- the items of a list, or of an own instance whose __iter__ walks its field -/
def walkO (tab : List (Nat × Str)) (x : D) : Option (List D) := match x with
  | .lst xs => some xs
  | .fix xs => some xs
  | .ins c fs => (match tab.lookup c with
    | some f => (match fs.lookup f with
      | some (.lst xs) => some xs
      | _ => none)
    | none => none)
  | _ => none
def kEnumO (tab : List (Nat × Str)) (ds : List D) : M (List D) := fun s => match ds with
  | [x] => (match walkO tab x with
    | some xs => .ok (enumL 0 xs) s
    | none => .bad)
  | _ => .bad
def iEnumO (tab : List (Nat × Str)) (a : AM) : AM := fun env st => (a env st).bind (kEnumO tab)
def zipL : List D → List D → List D
  | x :: xs, y :: ys => .tup [x, y] :: zipL xs ys
  | _, _ => []
def listO2 (x : D) : Option (List D) := match x with
  | .lst xs => some xs
  | .fix xs => some xs
  | _ => none
def kZipO (tab : List (Nat × Str)) (ds : List D) : M (List D) := fun s => match ds with
  | [x, y] => (match walkO tab x, listO2 y with
    | some xs, some ys => .ok (zipL xs ys) s
    | _, _ => .bad)
  | _ => .bad
def iZipO (tab : List (Nat × Str)) (a : AM) : AM := fun env st => (a env st).bind (kZipO tab)
theorem zipL_get : ∀ (xs ys : List D) (i : Nat) (z : D), (zipL xs ys)[i]? = some z → ∃ x y, xs[i]? = some x ∧ ys[i]? = some y ∧ z = .tup [x, y]
  | [], _, i, z, h => by simp [zipL] at h
  | _ :: _, [], i, z, h => by simp [zipL] at h
  | x :: xs, y :: ys, 0, z, h => by
    simp [zipL] at h
    exact ⟨x, y, rfl, rfl, h.symm⟩
  | x :: xs, y :: ys, i + 1, z, h => by
    rw [zipL, List.getElem?_cons_succ] at h
    obtain ⟨a, b, h1, h2, h3⟩ := zipL_get xs ys i z h
    exact ⟨a, b, by rw [List.getElem?_cons_succ]; exact h1, by rw [List.getElem?_cons_succ]; exact h2, h3⟩
theorem zipL_len : ∀ (xs ys : List D), (zipL xs ys).length = min xs.length ys.length
  | [], _ => by simp [zipL]
  | _ :: _, [] => by simp [zipL]
  | x :: xs, y :: ys => by rw [zipL, List.length_cons, List.length_cons, List.length_cons, zipL_len xs ys]; omega
theorem jok_zip {K : PySem.W.Frag} {ca : Nat → Addr} {W : Wd} {a b : Addr} {xs ys : List V} {ds es : List D} (h : ∀ W', Kp W W' → SqL K W'.h a xs) (r : Reps K ca W xs ds) (h' : ∀ W', Kp W W' → SqL K W'.h b ys) (r' : Reps K ca W ys es) : JOk K ca W (Itz K a b) (zipL ds es) := by
  intro W' st' k w'
  have hq := h W' k
  have hq' := h' W' k
  refine ⟨fun i d hi => ?_, xs, ys, hq, hq', by rw [zipL_len, r.length, r'.length]; omega⟩
  obtain ⟨d1, d2, h1, h2, rfl⟩ := zipL_get ds es i d hi
  obtain ⟨v1, g1, g2⟩ := r.get h1
  obtain ⟨v2, g3, g4⟩ := r'.get h2
  refine ⟨⟨xs, ys, v1, v2, hq, hq', g1, g3⟩, fun x H' y => ?_⟩
  obtain ⟨T, x1, x2, rfl, hT, rfl, hx, hy⟩ := y
  have e1 : x1 = v1 := Option.some.inj ((hx xs hq).symm.trans g1)
  have e2 : x2 = v2 := Option.some.inj ((hy ys hq').symm.trans g3)
  subst e1 e2
  refine ⟨W'.lay T (.tup [x1, x2]) hT, rfl, W'.lay_ext hT, w'.lay hT, ?_⟩
  exact .tup (W'.lay_nav hT) (.inl upd_same) (.cons ((g2.kp k).mono (W'.lay_ext hT)) (.cons ((g4.kp k).mono (W'.lay_ext hT)) .nil))
section
variable {G : Gx} {tab : List (Nat × Str)} {a b : Expr} {aa : AM} {p pos tpos : Pos}
/-- what is walked: a list, or an own instance -/
theorem walkO_at {W : Wd} {x : V} {d : D} {xs : List D} (ht : ∀ c f, tab.lookup c = some f → OwnIt G c f) (r : Rep G.X.K G.ca W x d) (h : walkO tab d = some xs) :
    ∃ (q l : Addr) (ys : List V), x = .ref q ∧ (∀ W', Kp W W' → SqL G.X.K W'.h l ys) ∧ SqL G.X.K W.h l ys ∧ Reps G.X.K G.ca W ys xs ∧ (q = l ∨ ∃ (c : Nat) (f : Str) (dx : Addr) (ws : List (Str × V)), OwnIt G c f ∧ W.h q = some (.ins (G.ca c) dx ws) ∧ ws.lookup f = some (.ref l)) := by
  cases r with
  | lst n h1 r1 => cases h; exact ⟨_, _, _, rfl, fun W' kp => .inl (.inl (kp.keep _ _ n h1)), .inl (.inl h1), r1, .inl rfl⟩
  | fix n h1 r1 => cases h; exact ⟨_, _, _, rfl, fun W' kp => .inl (kp.kw.rd n h1).2, .inl h1, r1, .inl rfl⟩
  | fixK h1 r1 => cases h; exact ⟨_, _, _, rfl, fun W' kp => h1.sq, h1.sq, r1, .inl rfl⟩
  | ins n h1 rf =>
    rename_i q dx c ws fs
    unfold walkO at h
    dsimp only at h
    cases hc : tab.lookup c with
    | none => rw [hc] at h; cases h
    | some f =>
      rw [hc] at h
      dsimp only at h
      split at h
      case h_2 => cases h
      rename_i zs hl
      cases h
      obtain ⟨v, g1, g2⟩ := rf.look hl
      obtain ⟨l, ys, rfl, nl, hly, ry⟩ := g2.atL
      exact ⟨q, l, ys, rfl, fun W' kp => .inl (.inl (kp.keep _ _ nl hly)), .inl (.inl hly), ry, .inr ⟨c, f, dx, ws, ht c f hc, h1, g1⟩⟩
  | _ => cases h
theorem listO2_at {W : Wd} {x : V} {d : D} {xs : List D} (r : Rep G.X.K G.ca W x d) (h : listO2 d = some xs) :
    ∃ (l : Addr) (ys : List V), x = .ref l ∧ (∀ W', Kp W W' → SqL G.X.K W'.h l ys) ∧ SqL G.X.K W.h l ys ∧ Reps G.X.K G.ca W ys xs := by
  cases r with
  | lst n h1 r1 => cases h; exact ⟨_, _, rfl, fun W' kp => .inl (.inl (kp.keep _ _ n h1)), .inl (.inl h1), r1⟩
  | fix n h1 r1 => cases h; exact ⟨_, _, rfl, fun W' kp => .inl (kp.kw.rd n h1).2, .inl h1, r1⟩
  | fixK h1 r1 => cases h; exact ⟨_, _, rfl, fun W' kp => h1.sq, h1.sq, r1⟩
  | _ => cases h
theorem zip_apart (n l l2 it : Nat) (b1 : l < n) (b2 : l2 < n) (h : it < n) (n1 : l ≠ it) (n2 : l2 ≠ it) : ZipApart (n + 3) (n + 1) (n + 2) it n l l2 := by
  constructor <;> (show ¬ ((_ : Nat) = _); omega)
theorem in1x2 {A : Around} : A.in1.in1.frames = A.frames := rfl
theorem ri_enumO {elts : List Expr} {kk : Nat} (hr : Room 4 G.X.A) (ht : ∀ c f, tab.lookup c = some f → OwnIt G c f) (hg : Gl G.X "enumerate") (hm : G.X.mg "enumerate" = none) (ha : RA G [a] aa) (hs : starEach [a] G.X.env = [(false, eval a G.X.env)] := by exact starEach_ns rfl) : RI G (.Tuple elts kk tpos) (.Call (.Name "enumerate" p) [a] [] pos) (iEnumO tab aa) := by
  intro σ W env st R wk re hp pins s I
  refine Call_ (ld_blt I hg hm boot_enumerate (PyProof.Rows.callWith_type1 (thn (ha σ W env st (fun vs H => ∃ (q l : Addr) (ys : List V), vs = [.ref q] ∧ SqL G.X.K H l ys ∧ R (Ite G.X.K l) H ∧ (q = l ∨ ∃ (c : Nat) (f : Str) (dx : Addr) (ws : List (Str × V)), OwnIt G c f ∧ H q = some (.ins (G.ca c) dx ws) ∧ ws.lookup f = some (.ref l))) wk re (bindAI hp fun ds s1 vs W1 e1 w1 r1 p1 => ?_) pos pins s I) fun us s1 hv => ?_) hs rfl))
  · unfold kEnumO at p1
    split at p1
    case h_2 => exact p1.elim
    rename_i x
    cases hw : walkO tab x with
    | none => rw [hw] at p1; exact p1.elim
    | some xs =>
      rw [hw] at p1
      match r1 with
      | .cons r .nil =>
        obtain ⟨q, l, ys, rfl, g1, g2, g3, g4⟩ := walkO_at ht r hw
        exact ⟨q, l, ys, rfl, g2, p1 _ W1 (Ext.refl W1) w1 (jok_enum g1 g3), g4⟩
  · obtain ⟨vs, H1, I1, rv, q, l, ys, rfl, hl, hR, hc⟩ := hv
    obtain ⟨u, rfl, ru⟩ := vals1 rv
    cases ru
    rcases hc with rfl | ⟨c, f, dx, ws, O, hq, hlk⟩
    · obtain ⟨its, rv, p', hz⟩ := I1.list hl
      refine call_enumerate_list p'.isList fun h' he hit hsz hk => wpAny_pyIter_enum he ?_
      have I2 : Inv G.X pins σ H1 { s1 with heap := h' } := I1.kept (t' := s1.toks) hk
      refine ⟨s1.heap.objs.size + 1, [s1.heap.objs.size + 1, s1.heap.objs.size], _, _, H1, rfl, I2, turn_enum q (s1.heap.objs.size + 1) s1.heap.objs.size, ⟨⟨.none, he⟩, hit, Nat.succ_ne_self _⟩, fun b hb => ?_, hR⟩
      have e' : b = s1.heap.objs.size + 1 ∨ b = s1.heap.objs.size := by simpa using hb
      have hle : s1.heap.objs.size ≤ b := by
        rcases e' with z | z
        · rw [z]; exact Nat.le_add_right _ _
        · rw [z]; exact Nat.le_refl _
      exact I1.fpOk hle (I1.hok.fresh hle)
    · refine call_enumO (P := fun it s' => Inv G.X pins σ H1 s' ∧ s'.heap.IsListIter it l 0 ∧ FpOk G.X pins H1 it) (fun Q E k => own_iter_at (hr.mono (by omega : 4 ≤ 4)).in1.in1 in1x2 O I1 hq hlk hl fun it s' h1 h2 h3 => k it s' ⟨h1, h2, h3⟩) fun it s' hP => ?_
      obtain ⟨I2, hit, hfp⟩ := hP
      have he : IsEnum (s'.heap.push (enumObj it)) s'.heap.objs.size it 0 .none := Heap.get?_push_size _ rfl
      refine wpAny_pyIter_enum (s := { s' with heap := s'.heap.push (enumObj it) }) he ?_
      have hne : s'.heap.objs.size ≠ it := fun z => by
        obtain ⟨o, e, _⟩ := id hit
        exact Nat.ne_of_lt (Heap.lt_size e) z.symm
      have I3 : Inv G.X pins σ H1 { s' with heap := s'.heap.push (enumObj it) } := I2.kept (t' := s'.toks) fun b o e => Heap.get?_push_of_some _ e
      refine ⟨s'.heap.objs.size, [s'.heap.objs.size, it], _, _, H1, rfl, I3, turn_enum l s'.heap.objs.size it, ⟨⟨.none, he⟩, hit.at fun o e => Heap.get?_push_of_some _ e, hne⟩, fun b hb => ?_, hR⟩
      have e' : b = s'.heap.objs.size ∨ b = it := by simpa using hb
      rcases e' with z | z
      · rw [z]; exact I2.fpOk (Nat.le_refl _) (I2.hok.fresh (Nat.le_refl _))
      · rw [z]; exact hfp
theorem ri_zipO {elts : List Expr} {kk : Nat} (hr : Room 4 G.X.A) (ht : ∀ c f, tab.lookup c = some f → OwnIt G c f) (hg : Gl G.X "zip") (hm : G.X.mg "zip" = none) (ha : RA G [a, b] aa) (hs : starEach [a, b] G.X.env = (false, eval a G.X.env) :: starEach [b] G.X.env := by exact starEach_ns rfl) (hpl : (backTo pos (starEach [b] G.X.env)).any (·.1) = false := by exact plain_ns rfl) : RI G (.Tuple elts kk tpos) (.Call (.Name "zip" p) [a, b] [] pos) (iZipO tab aa) := by
  intro σ W env st R wk re hp pins s I
  refine Call_ (ld_blt I hg hm PyProof.Rows.boot_zip (PyProof.Rows.callWith_type1 (thn (ha σ W env st (fun vs H => ∃ (q l l2 : Addr) (ys zs : List V), vs = [.ref q, .ref l2] ∧ SqL G.X.K H l ys ∧ SqL G.X.K H l2 zs ∧ R (Itz G.X.K l l2) H ∧ (q = l ∨ ∃ (c : Nat) (f : Str) (dx : Addr) (ws : List (Str × V)), OwnIt G c f ∧ H q = some (.ins (G.ca c) dx ws) ∧ ws.lookup f = some (.ref l))) wk re (bindAI hp fun ds s1 vs W1 e1 w1 r1 p1 => ?_) pos pins s I) fun us s1 hv => ?_) hs hpl))
  · unfold kZipO at p1
    split at p1
    case h_2 => exact p1.elim
    rename_i x y
    cases hw : walkO tab x with
    | none => rw [hw] at p1; exact p1.elim
    | some xs =>
      cases hw2 : listO2 y with
      | none => rw [hw, hw2] at p1; exact p1.elim
      | some es =>
        rw [hw, hw2] at p1
        match r1 with
        | .cons r (.cons r' .nil) =>
          obtain ⟨q, l, ys, rfl, g1, g2, g3, g4⟩ := walkO_at ht r hw
          obtain ⟨l2, zs, rfl, k1, k2, k3⟩ := listO2_at r' hw2
          exact ⟨q, l, l2, ys, zs, rfl, g2, k2, p1 _ W1 (Ext.refl W1) w1 (jok_zip g1 g3 k1 k3), g4⟩
  · obtain ⟨vs, H1, I1, rv, q, l, l2, ys, zs, rfl, hl, hl2, hR, hc⟩ := hv
    cases rv with
    | cons r rr =>
    cases rr with
    | cons r' rr =>
    cases rr
    cases r
    cases r'
    rcases hc with rfl | ⟨c, f, dx, ws, O, hq, hlk⟩
    · obtain ⟨its, rv, p1, _⟩ := I1.list hl
      obtain ⟨its2, rv2, p2, _⟩ := I1.list hl2
      have la : q < s1.heap.objs.size := p1.lt
      have lb : l2 < s1.heap.objs.size := p2.lt
      refine call_zip_2 p1.isList p2.isList fun h' hz hTI hTO h1 h2 hsz hk => wpAny_pyIter_zip hz ?_
      have I2 : Inv G.X pins σ H1 { s1 with heap := h' } := I1.kept (t' := s1.toks) hk
      refine ⟨s1.heap.objs.size + 4, [s1.heap.objs.size + 4, s1.heap.objs.size + 2, s1.heap.objs.size + 3, s1.heap.objs.size, s1.heap.objs.size + 1], _, _, H1, rfl, I2, turn_zip (PySem.W.ktu_apart s1.heap.objs.size q l2 la lb), ⟨hz, hTI, ⟨_, _, hTO⟩, h1, h2⟩, fun c hcm => ?_, hR⟩
      have e' : c = s1.heap.objs.size + 4 ∨ c = s1.heap.objs.size + 2 ∨ c = s1.heap.objs.size + 3 ∨ c = s1.heap.objs.size ∨ c = s1.heap.objs.size + 1 := by simpa using hcm
      have hle : s1.heap.objs.size ≤ c := by
        rcases e' with z | z | z | z | z <;> rw [z] <;> omega
      exact I1.fpOk hle (I1.hok.fresh hle)
    · refine call_zipO (P := fun it s' => Inv G.X pins σ H1 s' ∧ s'.heap.IsListIter it l 0 ∧ FpOk G.X pins H1 it ∧ l < s'.heap.objs.size ∧ l2 < s'.heap.objs.size ∧ l ≠ it ∧ l2 ≠ it) (fun Q E k => own_iter_at (hr.mono (by omega : 4 ≤ 4)).in1.in1 in1x2 O I1 hq hlk hl fun it s' h1 h2 h3 => k it s' ?_) (fun it s' hP => ?_) fun it s' hP => ?_
      · obtain ⟨j1, v1, q1, _⟩ := h1.list hl
        obtain ⟨j2, v2, q2, _⟩ := h1.list hl2
        have ne : ∀ {b : Addr} {bs : Array Value}, s'.heap.IsList b bs → b ≠ it := fun {b bs} hb z => by
          subst z
          obtain ⟨o1, g1, c1, _⟩ := hb
          obtain ⟨o2, g2, c2, _⟩ := id h2
          rw [g1] at g2
          cases g2
          rw [c1] at c2
          exact absurd c2 (by decide)
        exact ⟨h1, h2, h3, q1.lt, q2.lt, ne q1.isList, ne q2.isList⟩
      · obtain ⟨j2, v2, q2, _⟩ := hP.1.list hl2
        exact ⟨_, q2.isList⟩
      · obtain ⟨I2, hit, hfp, b1, b2, n1, n2⟩ := hP
        have hitl : it < s'.heap.objs.size := by
          obtain ⟨o, e, _⟩ := id hit
          exact Heap.lt_size e
        generalize hn : s'.heap.objs.size = n at b1 b2 hitl
        have z1 : (s'.heap.push (litO l2)).objs.size = n + 1 := by rw [Heap.size_push, hn]
        have z2 : ((s'.heap.push (litO l2)).push (zipP (.ref it) (.ref s'.heap.objs.size))).objs.size = n + 2 := by rw [Heap.size_push, z1]
        have z3 : (((s'.heap.push (litO l2)).push (zipP (.ref it) (.ref s'.heap.objs.size))).push (zipP .none .none)).objs.size = n + 3 := by rw [Heap.size_push, z2]
        have kp : ∀ b o, s'.heap.get? b = some o → (zipHp s'.heap it l2).get? b = some o := fun b o e => Heap.get?_push_of_some _ (Heap.get?_push_of_some _ (Heap.get?_push_of_some _ (Heap.get?_push_of_some _ e)))
        have g0 : (zipHp s'.heap it l2).get? n = some (litO l2) := by
          have := Heap.get?_push_size s'.heap (o := litO l2) rfl
          rw [hn] at this
          exact Heap.get?_push_of_some _ (Heap.get?_push_of_some _ (Heap.get?_push_of_some _ this))
        have g1 : (zipHp s'.heap it l2).get? (n + 1) = some (zipP (.ref it) (.ref n)) := by
          have := Heap.get?_push_size (s'.heap.push (litO l2)) (o := zipP (.ref it) (.ref s'.heap.objs.size)) rfl
          rw [z1] at this
          rw [← hn] at this ⊢
          exact Heap.get?_push_of_some _ (Heap.get?_push_of_some _ this)
        have g2 : (zipHp s'.heap it l2).get? (n + 2) = some (zipP .none .none) := by
          have := Heap.get?_push_size ((s'.heap.push (litO l2)).push (zipP (.ref it) (.ref s'.heap.objs.size))) (o := zipP .none .none) rfl
          rw [z2] at this
          exact Heap.get?_push_of_some _ this
        have g3 : (zipHp s'.heap it l2).get? (n + 3) = some (zipO (n + 1) (n + 2)) := by
          have := Heap.get?_push_size (((s'.heap.push (litO l2)).push (zipP (.ref it) (.ref s'.heap.objs.size))).push (zipP .none .none)) (o := zipO (s'.heap.objs.size + 1) (s'.heap.objs.size + 2)) rfl
          rw [z3] at this
          rw [← hn] at this ⊢
          exact this
        have I3 : Inv G.X pins σ H1 { s' with heap := zipHp s'.heap it l2 } := I2.kept (t' := s'.toks) kp
        have ap := zip_apart n l l2 it b1 b2 hitl n1 n2
        refine wpAny_pyIter_zip (s := { s' with heap := zipHp s'.heap it l2 }) (z := n + 3) (TI := n + 1) (TO := n + 2) g3 ?_
        refine ⟨n + 3, [n + 3, n + 1, n + 2, it, n], _, _, H1, rfl, I3, turn_zip ap, ⟨g3, g1, ⟨_, _, g2⟩, hit.at fun o e => kp _ _ e, ⟨_, g0, rfl, rfl⟩⟩, fun c hcm => ?_, hR⟩
        have e' : c = n + 3 ∨ c = n + 1 ∨ c = n + 2 ∨ c = it ∨ c = n := by simpa using hcm
        have fr : ∀ c : Addr, s'.heap.objs.size ≤ c → FpOk G.X pins H1 c := fun c hle => I2.fpOk hle (I2.hok.fresh hle)
        rcases e' with z | z | z | z | z
        · rw [z]; exact fr _ (by rw [hn]; omega)
        · rw [z]; exact fr _ (by rw [hn]; omega)
        · rw [z]; exact fr _ (by rw [hn]; omega)
        · rw [z]; exact hfp
        · rw [z]; exact fr _ (by rw [hn]; exact Nat.le_refl _)
end
end Mi
/-! MiFrz: a def's new lists stand fast when it returns; for over a list that is a cell; enumerate of a tuple. -/
namespace Mi
open PySem PySem.Spec PyProof.Rows L2 ItX
section
variable {K : PySem.W.Frag} {ca : Nat → Addr} {W W1 : Wd}
/-- the world behind a def whose new cells are let go -/
def cutW (e : Ext W W1) : Wd := ⟨W.av, W.g, W1.h, fun p h z => W.trk p h (e.stay p z), W.gav⟩
theorem cut_ext (e : Ext W W1) : Ext W (cutW e) := ⟨e.keep, e.own, fun _ h => h, fun _ h => .inl h, e.stay, [], by simp [cutW], fun _ h => by simp at h⟩
theorem cut_nav (e : Ext W W1) {p : Addr} (n : ¬ W1.av p) : ¬ (cutW e).av p := fun z => n (e.av p z)
mutual
theorem Rep.cut0 (e : Ext W W1) : ∀ {v v0 : V} {d : D}, Rep K ca W1 v d → Rep K ca W v0 d → Rep K ca (cutW e) v d
  | _, _, _, .non, _ => .non
  | _, _, _, .bl b, _ => .bl b
  | _, _, _, .int i, _ => .int i
  | _, _, _, .str x, _ => .str x
  | _, _, _, .lst n h r, .lst _ _ r0 => .lst (cut_nav e n) h (Reps.cut0 e r r0)
  | _, _, _, .fix n h r, .fix _ _ r0 => .fix (cut_nav e n) h (Reps.cut0 e r r0)
  | _, _, _, .fix n h r, .fixK _ r0 => .fix (cut_nav e n) h (Reps.cut0 e r r0)
  | _, _, _, .fixK h r, .fix _ _ r0 => .fixK h (Reps.cut0 e r r0)
  | _, _, _, .fixK h r, .fixK _ r0 => .fixK h (Reps.cut0 e r r0)
  | _, _, _, .tup n h r, .tup _ _ r0 => .tup (cut_nav e n) h (Reps.cut0 e r r0)
  | _, _, _, .tup n h r, .tupK _ r0 => .tup (cut_nav e n) h (Reps.cut0 e r r0)
  | _, _, _, .tupK h r, .tup _ _ r0 => .tupK h (Reps.cut0 e r r0)
  | _, _, _, .tupK h r, .tupK _ r0 => .tupK h (Reps.cut0 e r r0)
  | _, _, _, .ins n h r, .ins _ _ r0 => .ins (cut_nav e n) h (RepF.cut0 e r r0)
  | _, _, _, .cell h, .cell h0 => .cell (by
      obtain ⟨l, q, _⟩ := e.pre
      rw [q, List.getElem?_append_left (List.getElem?_eq_some_iff.mp h0).1] at h
      exact h)
  | _, _, _, .cls c, _ => .cls c
  | _, _, _, .ty n, _ => .ty n
theorem Reps.cut0 (e : Ext W W1) : ∀ {vs ws : List V} {ds : List D}, Reps K ca W1 vs ds → Reps K ca W ws ds → Reps K ca (cutW e) vs ds
  | _, _, _, .nil, _ => .nil
  | _, _, _, .cons r t, .cons r0 t0 => .cons (Rep.cut0 e r r0) (Reps.cut0 e t t0)
theorem RepF.cut0 (e : Ext W W1) : ∀ {vs ws : List (Str × V)} {ds : Fs}, RepF K ca W1 vs ds → RepF K ca W ws ds → RepF K ca (cutW e) vs ds
  | _, _, _, .nil, _ => .nil
  | _, _, _, .cons r t, .cons r0 t0 => .cons (Rep.cut0 e r r0) (RepF.cut0 e t t0)
end
mutual
theorem Rep.cutP (e : Ext W W1) : ∀ {v : V} {d : D}, Rep K ca W1 v d → (D.pd d).isSome = true → Rep K ca (cutW e) v d
  | _, _, .non, _ => .non
  | _, _, .bl b, _ => .bl b
  | _, _, .int i, _ => .int i
  | _, _, .str x, _ => .str x
  | _, _, .lst n h r, q => .lst (cut_nav e n) h (Reps.cutP e r (by simpa [D.pd] using q))
  | _, _, .fix n h r, q => .fix (cut_nav e n) h (Reps.cutP e r (by simpa [D.pd] using q))
  | _, _, .fixK h r, q => .fixK h (Reps.cutP e r (by simpa [D.pd] using q))
  | _, _, .tup n h r, q => .tup (cut_nav e n) h (Reps.cutP e r (by simpa [D.pd] using q))
  | _, _, .tupK h r, q => .tupK h (Reps.cutP e r (by simpa [D.pd] using q))
  | _, _, .ins n h r, q => by simp [D.pd] at q
  | _, _, .cell h, q => by simp [D.pd] at q
  | _, _, .cls c, q => by simp [D.pd] at q
  | _, _, .ty n, q => by simp [D.pd] at q
theorem Reps.cutP (e : Ext W W1) : ∀ {vs : List V} {ds : List D}, Reps K ca W1 vs ds → (D.pds ds).isSome = true → Reps K ca (cutW e) vs ds
  | _, _, .nil, _ => .nil
  | _, _, .cons (d := d) (ds := ds) r t, q => by
    rw [D.pds] at q
    cases h1 : D.pd d with
    | none => rw [h1] at q; simp at q
    | some a =>
      cases h2 : D.pds ds with
      | none => rw [h1, h2] at q; simp at q
      | some as => exact .cons (Rep.cutP e r (by rw [h1]; rfl)) (Reps.cutP e t (by rw [h2]; rfl))
end
def noDk : Cl → Bool
  | .dk _ => false
  | _ => true
theorem cut_ok {st st' : Sto} (e : Ext W W1) (w : WOk K ca W st) (w1 : WOk K ca W1 st') (ht : st'.take st.length = st) (hk : st.all noDk = true) : WOk K ca (cutW e) st := by
  refine ⟨w.nd, w.len, fun n p c hp hc => ?_⟩
  have hp0 : W.g[n]? = some p := hp
  obtain ⟨l, q, _⟩ := e.pre
  have hn : n < W.g.length := (List.getElem?_eq_some_iff.mp hp0).1
  have hp1 : W1.g[n]? = some p := by rw [q, List.getElem?_append_left hn]; exact hp0
  have hc1 : st'[n]? = some c := by
    rw [← ht, List.getElem?_take_of_lt (by rw [← w.len]; exact hn)] at hc
    exact hc
  have c0 := w.cell n p c hp0 hc
  have c1 := w1.cell n p c hp1 hc1
  cases c with
  | lst ds =>
    obtain ⟨xs, h1, h2⟩ := c1
    obtain ⟨ys, _, h3⟩ := c0
    exact ⟨xs, h1, h2.cut0 e h3⟩
  | ins c gs =>
    obtain ⟨dx, fs, h1, h2⟩ := c1
    obtain ⟨_, _, _, h3⟩ := c0
    exact ⟨dx, fs, h1, h2.cut0 e h3⟩
  | dk kvs =>
    have := List.all_eq_true.mp hk _ (List.mem_of_getElem? hc)
    cases this
  | tab m q =>
    obtain ⟨h0, ps, h1, h2, h3⟩ := c1
    refine ⟨h0, ps, h1, h2, fun pos cv hv => ?_⟩
    obtain ⟨c, e1, n1, e2⟩ := h3 pos cv hv
    exact ⟨c, e1, cut_nav e n1, e2⟩
/-- one value that is returned: a new list, or plain data -/
def frz1 (k : Nat) (st : Sto) (d : D) : Option D := match d with
  | .cell n => if k ≤ n then (match st[n]? with
    | some (.lst xs) => if (D.pds xs).isSome = true then some (.lst xs) else none
    | _ => none) else none
  | d => if (D.pd d).isSome = true then some d else none
def frzs (k : Nat) (st : Sto) : List D → Option (List D)
  | [] => some []
  | d :: ds => (match frz1 k st d with
    | some e => (match frzs k st ds with
      | some es => some (e :: es)
      | none => none)
    | none => none)
def frzD (k : Nat) (st : Sto) (d : D) : Option D := match d with
  | .tup ds => (match frzs k st ds with
    | some es => some (.tup es)
    | none => none)
  | .lst ds => (match frzs k st ds with
    | some es => some (.lst es)
    | none => none)
  | d => frz1 k st d
theorem frz1_at {st st' : Sto} {v : V} {d d' : D} (e : Ext W W1) (w : WOk K ca W st) (w1 : WOk K ca W1 st') (r : Rep K ca W1 v d) (h : frz1 st.length st' d = some d') : Rep K ca (cutW e) v d' := by
  unfold frz1 at h
  split at h
  · rename_i n
    split at h
    case isFalse => cases h
    rename_i hn
    split at h
    case h_2 => cases h
    rename_i xs hs
    split at h
    case isFalse => cases h
    rename_i hx
    cases h
    cases r with
    | cell hg =>
      rename_i p
      obtain ⟨ys, h1, h2⟩ := w1.cell n p _ hg hs
      obtain ⟨l, q, hl⟩ := e.pre
      refine .lst (fun z => ?_) h1 (h2.cutP e hx)
      have hm : p ∈ l := by
        rw [q, List.getElem?_append_right (by rw [w.len]; exact hn)] at hg
        exact List.mem_of_getElem? hg
      exact W.trk p z (hl p hm)
  · split at h
    · cases h; exact r.cutP e (by assumption)
    · cases h
theorem frzs_at {st st' : Sto} (e : Ext W W1) (w : WOk K ca W st) (w1 : WOk K ca W1 st') : ∀ {vs : List V} {ds es : List D}, Reps K ca W1 vs ds → frzs st.length st' ds = some es → Reps K ca (cutW e) vs es
  | _, _, _, .nil, h => by cases h; exact .nil
  | _, _, _, .cons (d := d) (ds := ds) r t, h => by
    rw [frzs] at h
    cases h1 : frz1 st.length st' d with
    | none => rw [h1] at h; cases h
    | some d' =>
      rw [h1] at h
      cases h2 : frzs st.length st' ds with
      | none => rw [h2] at h; cases h
      | some es =>
        rw [h2] at h
        cases h
        exact .cons (frz1_at e w w1 r h1) (frzs_at e w w1 t h2)
theorem frzD_at {st st' : Sto} {v : V} {d d' : D} (e : Ext W W1) (w : WOk K ca W st) (w1 : WOk K ca W1 st') (r : Rep K ca W1 v d) (h : frzD st.length st' d = some d') : Rep K ca (cutW e) v d' := by
  unfold frzD at h
  split at h
  · rename_i ds
    cases h2 : frzs st.length st' ds with
    | none => rw [h2] at h; cases h
    | some es =>
      rw [h2] at h
      cases h
      cases r with
      | tup n hh rr => exact .tup (cut_nav e n) hh (frzs_at e w w1 rr h2)
      | tupK hh rr => exact .tupK hh (frzs_at e w w1 rr h2)
  · rename_i ds
    cases h2 : frzs st.length st' ds with
    | none => rw [h2] at h; cases h
    | some es =>
      rw [h2] at h
      cases h
      cases r with
      | lst n hh rr => exact .lst (cut_nav e n) hh (frzs_at e w w1 rr h2)
  · exact frz1_at e w w1 r h
noncomputable def frzM (m : List D → M D) (ds : List D) : M D := fun st => match m ds st with
  | .ok d st' => cif (st'.take st.length = st ∧ st.all noDk = true) (match frzD st.length st' d with
    | some d' => .ok d' st
    | none => .bad) .bad
  | .exc c fs st' => .exc c fs st'
  | .bad => .bad
end
theorem ok_frz {P : Program} {w : World} {K : PySem.W.Frag} {ca : Nat → Addr} {mg : Str → Option Value} {base : Heap} {CX : CXT} {k n : Nat} {f : Addr} {fd : FuncData} {ps : List Str} {m : List D → M D} (F : FnOk P w K mg base CX k f fd ps (spM K ca n m)) : FnOk P w K mg base CX k f fd ps (spM K ca n (frzM m)) := by
  refine F.imp fun vs H Q E h => ?_
  obtain ⟨W, st, ds, rfl, wk, r, hl, p⟩ := h
  refine ⟨W, st, ds, rfl, wk, r, hl, ?_⟩
  unfold frzM at p
  cases hm : m ds st with
  | bad => rw [hm] at p; exact p
  | exc c fs st' => rw [hm] at p; exact p
  | ok d st' =>
    rw [hm] at p
    dsimp only at p
    unfold cif at p
    split at p
    case h_2 =>
      rename_i he
      exfalso
      split at he
      · split at he <;> cases he
      · cases he
    case h_3 => exact p.elim
    rename_i d' st2 he
    intro v W1 e w1 rv
    split at he
    case isFalse => cases he
    rename_i hc
    split at he
    case h_2 => cases he
    rename_i d2 hf
    cases he
    exact p v (cutW e) (cut_ext e) (cut_ok e wk w1 hc.1 hc.2) (frzD_at e wk w1 rv hf)
/-! ### enumerate of a tuple -/
def Itet (K : PySem.W.Frag) (a : Addr) : It :=
  ⟨fun i H => ∃ (xs : List V) (x : V), SqT K H a xs ∧ xs[i]? = some x, fun i H v H' => ∃ T x, v = .ref T ∧ H T = none ∧ H' = upd H T (.tup [.int (i : Nat), x]) ∧ ∀ xs, SqT K H a xs → xs[i]? = some x, fun i H => ∃ xs : List V, SqT K H a xs ∧ xs.length = i⟩
theorem turn_enumT {P : Program} {w : World} {K : PySem.W.Frag} {elts : List Expr} {kk : Nat} {tpos : Pos} (a e it : Addr) (hai : a ≠ it) (hea : e ≠ a) (hei : e ≠ it) :
    Turn P w K (.Tuple elts kk tpos) (Itet K a) [e, it] e (fun i h => (∃ old, IsEnum h e it ((i : Nat) : Int) old) ∧ h.IsTupleIter it a i) where
  mem := by simp
  obj := by
    rintro i h ⟨⟨old, he⟩, o, ho, hc, hd⟩ b hb
    rcases (by simpa using hb : b = e ∨ b = it) with z | z <;> subst z
    · exact ⟨_, he, fun v q => nomatch q⟩
    · exact ⟨o, ho, fun v q => by rw [hd] at q; cases q⟩
  keep := by
    rintro i h h' ⟨⟨old, he⟩, hi⟩ k
    exact ⟨⟨old, k e (by simp) _ he⟩, hi.at fun o q => k it (by simp) o q⟩
  item := by
    intro X hP hw hK hc i pins s σ H E I hf st hg
    subst hP hw hK
    obtain ⟨⟨old, he⟩, hit⟩ := st
    obtain ⟨xs, x, hq, hx⟩ := hg
    obtain ⟨its, rv, p, hz⟩ := I.tuple hq
    have hti : s.heap.IsTuple a its.toArray := p
    obtain ⟨u, hu, ru⟩ := rv.get hx
    have hel : e < s.heap.objs.size := Heap.lt_size he
    have hil : it < s.heap.objs.size := by obtain ⟨_, q, _⟩ := hit; exact Heap.lt_size q
    have hlt : i < its.toArray.size := by
      rw [List.size_toArray]
      exact (List.getElem?_eq_some_iff.mp hu).1
    have Dw := Draws.tuple (prog := X.prog) (w := X.w) (A := X.A.in1) (show X.A.in1.handled = none from I.ok.hd hc) it a hai its.toArray
    refine wpAny_pyNext_enum_itemD Dw he ⟨hit, hti⟩ hlt hei (by simp [hei, hea]) fun y h' tk hy ho hst hT hsz hk => ?_
    have ey : y = u := by
      have hy' : its.toArray[i]? = some y := hy
      rw [List.getElem?_toArray, hu] at hy'
      cases hy'
      rfl
    subst ey
    refine ⟨_, rfl, wpAny_letOwnedTupleGo_enum (s := { s with heap := h', toks := tk + 1 }) ho fun h2 he2 sb => ?_⟩
    have hT2 : h2.get? s.heap.objs.size = some { cls := .type "tuple", data := .seq #[.int i tk, y] } := (sb.2 _ (Nat.ne_of_gt hel)).trans hT
    have hnew : ObjOk X.prog X.w (upd H s.heap.objs.size (.tup [.int (i : Nat), x])) h2 s.heap.objs.size (.tup [.int (i : Nat), x]) :=
      ⟨(by decide : (2 : Nat) ≤ sizeLine), [.int i tk, y], .cons ⟨_, rfl⟩ (.cons ru .nil), ⟨_, hT2, rfl, _, rfl⟩⟩
    have I1 : Inv X pins σ (upd H s.heap.objs.size (.tup [.int (i : Nat), x])) { s with heap := h2, toks := tk + 1 } := by
      refine I.turnedNew (ch := [e, it]) (fun b ob hb q => ?_) hf (Nat.le_refl _) hnew
      have hb1 : b ≠ e := fun z => hb (by simp [z])
      have hb2 : b ≠ it := fun z => hb (by simp [z])
      exact (sb.2 b hb1).trans (hk b ob hb1 hb2 q)
    refine ⟨.ref s.heap.objs.size, _, I1, rfl, ⟨_, x, rfl, I.hok.fresh (Nat.le_refl _), rfl, fun ys hy => by rw [I.tuple_inj hy hq]; exact hx⟩, ⟨⟨y, ?_⟩, hst.1.at fun o q => (sb.2 it (Ne.symm hei)).trans q⟩, fun b hb => ?_⟩
    · rw [show ((i + 1 : Nat) : Int) = (i : Int) + 1 by omega]; exact he2
    · have hb2 : b < s.heap.objs.size := by
        rcases (by simpa using hb : b = e ∨ b = it) with z | z <;> subst z
        · exact hel
        · exact hil
      rw [upd_ne (Nat.ne_of_lt hb2)]
      exact (hf b hb).1
  done := by
    intro X hP hw hK hc i pins s σ H E I hf st hg
    subst hP hw hK
    obtain ⟨⟨old, he⟩, hit⟩ := st
    obtain ⟨xs, hq, hx⟩ := hg
    obtain ⟨its, rv, p, hz⟩ := I.tuple hq
    have hti : s.heap.IsTuple a its.toArray := p
    obtain ⟨f0, f1, f2, f3, f4, f5⟩ := hf it (by simp)
    have hl := rv.length
    have en : its.toArray.size = i := by rw [List.size_toArray]; omega
    have Dw := Draws.tuple (prog := X.prog) (w := X.w) (A := X.A.in1) (show X.A.in1.handled = none from I.ok.hd hc) it a hai its.toArray
    refine wpAny_pyNext_enum_endD Dw he (by rw [en]; exact ⟨hit, hti⟩) fun h' eb => ⟨rfl, I.turned (t' := s.toks) (fun b o hb q => eb b o hb q) f0 f1 f3 f4 f5⟩
  self := fun A i s Q E st h => let ⟨⟨_, he⟩, _⟩ := st; wpAny_pyIter_enum he h
theorem jok_enumT {K : PySem.W.Frag} {ca : Nat → Addr} {W : Wd} {q : Addr} {xs : List V} {ds : List D} (h : ∀ W', Kp W W' → SqT K W'.h q xs) (r : Reps K ca W xs ds) : JOk K ca W (Itet K q) (enumL 0 ds) := by
  intro W' st' k w'
  have hq := h W' k
  refine ⟨fun i d hi => ?_, xs, hq, by rw [enumL_len, r.length]⟩
  obtain ⟨d0, h1, rfl⟩ := enumL_get 0 ds i d hi
  obtain ⟨v, h2, h3⟩ := r.get h1
  refine ⟨⟨xs, v, hq, h2⟩, fun x H' y => ?_⟩
  obtain ⟨T, x', rfl, hT, rfl, hx⟩ := y
  have ex : x' = v := Option.some.inj ((hx xs hq).symm.trans h2)
  subst ex
  refine ⟨W'.lay T (.tup [.int ((i : Nat) : Int), x']) hT, rfl, W'.lay_ext hT, w'.lay hT, ?_⟩
  rw [Nat.zero_add]
  exact .tup (W'.lay_nav hT) (.inl upd_same) (.cons (.int _) (.cons ((h3.kp k).mono (W'.lay_ext hT)) .nil))
/-! ### for over what may be a cell -/
/-- the list that is walked stands as it stood -/
def gOk (g : Option (Nat × List D)) (st : Sto) : Prop := match g with
  | none => True
  | some (n, xs) => st[n]? = some (.lst xs)
def JOkX (K : PySem.W.Frag) (ca : Nat → Addr) (W : Wd) (g : Option (Nat × List D)) (J : It) (ds : List D) : Prop := ∀ (W' : Wd) (st : Sto), Kp W W' → WOk K ca W' st → gOk g st →
  (∀ (i : Nat) (d : D), ds[i]? = some d → J.go i W'.h ∧ ∀ x H', J.yld i W'.h x H' → ∃ W2 : Wd, W2.h = H' ∧ Ext W' W2 ∧ WOk K ca W2 st ∧ Rep K ca W2 x d) ∧ J.stop ds.length W'.h
abbrev XI := Option (Nat × List D) × List D
abbrev XM := En → Sto → Res XI
def PostIX (G : Gx) (W : Wd) (σ : L2.St) (r : Res XI) (R : It → Hp → Prop) : Prop := match r with
  | .ok x st => ∀ J W', Ext W W' → WOk G.X.K G.ca W' st → JOkX G.X.K G.ca W' x.1 J x.2 → R J W'.h
  | .exc c fs st => ∀ dd W', Ext W W' → WOk G.X.K G.ca W' st → RepX G.X.K G.ca W' fs dd → G.E (.ref (G.ca c)) dd σ W'.h
  | .bad => False
def RIX (G : Gx) (tg iter : Expr) (m : XM) : Prop := ∀ σ W env st R, WOk G.X.K G.ca W st → RepE G.X.K G.ca G.xc W σ env → PostIX G W σ (m env st) R → QI G tg iter σ W.h R
noncomputable def forLoopX (g : Option (Nat × List D)) (tg : TgM) (body : SM) : List D → SM
  | [], env, st => cif (gOk g st) (.nx env st) .bad
  | d :: ds, env, st => cif (gOk g st) (match tg d env with
    | none => .bad
    | some env1 => match body env1 st with
      | .nx env2 st2 => forLoopX g tg body ds env2 st2
      | .ct env2 st2 => forLoopX g tg body ds env2 st2
      | .bk env2 st2 => .nx env2 st2
      | r => r) .bad
noncomputable def kForX (tg : TgM) (body : SM) (env : En) (x : XI) (s : Sto) : SRes := forLoopX x.1 tg body x.2 env s
noncomputable def sForX (it : XM) (tg : TgM) (body : SM) : SM := fun env st => (it env st).go env (kForX tg body env)
theorem forLoopX_none (tg : TgM) (body : SM) : ∀ ds env st, forLoopX none tg body ds env st = forLoop tg body ds env st
  | [], env, st => by rw [forLoopX, forLoop]; exact cif_pos trivial
  | d :: ds, env, st => by
    rw [forLoopX, cif_pos (show gOk none st from trivial), forLoop]
    cases tg d env with
    | none => rfl
    | some env1 =>
      dsimp only
      cases body env1 st with
      | nx e2 s2 => exact forLoopX_none tg body ds e2 s2
      | ct e2 s2 => exact forLoopX_none tg body ds e2 s2
      | _ => rfl
section
variable {G : Gx} {tg iter : Expr} {body : List Stmt} {pos : Pos} {mi : XM} {js : List Nat} {mt : TgM} {mb : SM}
theorem rs_forX (hp : PassesOwn (model G.X.prog G.X.w) G.X.A G.X.env G.X.xe) (hc : G.X.calm = true) (hi : RIX G tg iter mi) (hg : RG G tg js mt) (hb : RSs G body mb)
    (hs : ∀ x, foldedSetIterable iter G.X.env x = pure x := by exact fold_ns rfl) : RS G (.For tg iter body [] pos) (sForX mi mt mb) := by
  intro σ W env st Dn w re p
  refine qs_of (ps_for hp hc pi_q pg_q pss_q hs) ?_
  refine hi σ W env st _ w re ?_
  unfold sForX at p
  cases hmi : mi env st with
  | bad => rw [hmi] at p; exact p
  | exc c fs s1 => rw [hmi] at p; exact fun dd W2 e w x => p σ dd W2 (e.s σ env) w (re.mono e) x
  | ok gx s1 =>
  rw [hmi] at p
  obtain ⟨gd, ds⟩ := gx
  intro J W1 e1 w1 j1
  have re1 := re.mono e1
  have p1 : PostS G W1 σ env (forLoopX gd mt mb ds env s1) Dn := PostS.mono (e1.s σ env) p
  clear p
  refine ⟨fun i m σ' H' => ∃ W' env' st', H' = W'.h ∧ m = ds.length - i ∧ i ≤ ds.length ∧ Kp W1 W' ∧ WOk G.X.K G.ca W' st' ∧ RepE G.X.K G.ca G.xc W' σ' env' ∧ PostS G W' σ' env' (forLoopX gd mt mb (ds.drop i) env' st') Dn,
    ⟨ds.length, W1, env, s1, rfl, rfl, Nat.zero_le _, Kp.refl W1, w1, re1, p1⟩, ?_⟩
  rintro i m σ' H' ⟨W', env', st', rfl, rfl, hi, k', w', re', p'⟩
  have gk : gOk gd st' := by
    cases hd : ds.drop i with
    | nil => rw [hd, forLoopX] at p'; unfold cif at p'; split at p'
             · assumption
             · exact p'.elim
    | cons a b => rw [hd, forLoopX] at p'; unfold cif at p'; split at p'
                  · assumption
                  · exact p'.elim
  obtain ⟨jg, js'⟩ := j1 W' st' k' w' gk
  cases hd : ds[i]? with
  | none =>
    have hl : ds.length ≤ i := List.getElem?_eq_none_iff.mp hd
    have e : i = ds.length := Nat.le_antisymm hi hl
    subst e
    rw [List.drop_length, forLoopX, cif_pos gk] at p'
    exact .inl ⟨js', p' σ' W' (ExtS.refl W' σ' env') w' re'⟩
  | some d =>
    have hl : i < ds.length := (List.getElem?_eq_some_iff.mp hd).1
    obtain ⟨go, yl⟩ := jg i d hd
    rw [drop_at hd, forLoopX, cif_pos gk] at p'
    refine .inr ⟨go, fun σ2 H2 => ∃ W2 env2 st2, H2 = W2.h ∧ Kp W1 W2 ∧ WOk G.X.K G.ca W2 st2 ∧ RepE G.X.K G.ca G.xc W2 σ2 env2 ∧ PostS G W2 σ2 env2 (forLoopX gd mt mb (ds.drop (i + 1)) env2 st2) Dn,
      fun σ2 H2 ⟨W2, env2, st2, h1, h2, h3, h4, h5⟩ => ⟨ds.length - (i + 1), by omega, W2, env2, st2, h1, rfl, hl, h2, h3, h4, h5⟩, fun x H2 y => ?_⟩
    obtain ⟨W2, rfl, e2, w2, r2⟩ := yl x H2 y
    refine hg σ' W2 env' x d _ (re'.mono e2) r2 ?_
    have p2 := PostS.mono (e2.s σ' env') p'
    cases hm : mt d env' with
    | none => rw [hm] at p2; exact p2.elim
    | some env1 =>
      rw [hm] at p2
      intro σ1 _ x1 re1'
      refine hb σ1 W2 env1 st' _ w2 re1' ?_
      have p3 := PostS.mono x1 p2
      dsimp only at p3
      cases hbd : mb env1 st' with
      | nx env2 st2 =>
        rw [hbd] at p3
        exact fun σ3 W3 x3 w3 re3 => ⟨W3, env2, st2, rfl, k'.trans (e2.kp.trans x3.kp), w3, re3, PostS.mono x3 p3⟩
      | ct env2 st2 =>
        rw [hbd] at p3
        exact fun σ3 W3 x3 w3 re3 => ⟨W3, env2, st2, rfl, k'.trans (e2.kp.trans x3.kp), w3, re3, PostS.mono x3 p3⟩
      | bk env2 st2 => rw [hbd] at p3; exact p3
      | rt d2 st2 => rw [hbd] at p3; exact p3
      | exc env2 c fs st2 => rw [hbd] at p3; exact p3
      | bad => rw [hbd] at p3; exact p3
end
/-! ### enumerate: a list, a tuple, an own instance, a cell -/
def walkX (tab : List (Nat × Str)) (x : D) (st : Sto) : Option XI := match x with
  | .cell n => (match st[n]? with
    | some (.lst xs) => some (some (n, xs), xs)
    | _ => none)
  | .tup xs => some (none, xs)
  | x => (match walkO tab x with
    | some xs => some (none, xs)
    | none => none)
def kEnumX (tab : List (Nat × Str)) (ds : List D) : M XI := fun s => match ds with
  | [x] => (match walkX tab x s with
    | some y => .ok (y.1, enumL 0 y.2) s
    | none => .bad)
  | _ => .bad
def iEnumX (tab : List (Nat × Str)) (a : AM) : XM := fun env st => (a env st).bind (kEnumX tab)
section
variable {G : Gx} {tab : List (Nat × Str)} {a b : Expr} {aa : AM} {p pos tpos : Pos}
theorem JOk.x {K : PySem.W.Frag} {ca : Nat → Addr} {W : Wd} {J : It} {ds : List D} (h : JOk K ca W J ds) : JOkX K ca W none J ds := fun W' st k w _ => h W' st k w
theorem jok_enumC {K : PySem.W.Frag} {ca : Nat → Addr} {W : Wd} {n : Nat} {q : Addr} {xs : List D} (hg : W.g[n]? = some q) : JOkX K ca W (some (n, xs)) (Ite K q) (enumL 0 xs) := by
  intro W' st' k w' g
  have g : st'[n]? = some (.lst xs) := g
  have hg' : W'.g[n]? = some q := by
    obtain ⟨l, e, _⟩ := k.pre
    rw [e, List.getElem?_append_left (List.getElem?_eq_some_iff.mp hg).1]
    exact hg
  obtain ⟨vs, hq, r⟩ := w'.cell n q _ hg' g
  have hsq : SqL K W'.h q vs := .inl (.inl hq)
  refine ⟨fun i d hi => ?_, vs, hsq, by rw [enumL_len, r.length]; exact Nat.le_refl _⟩
  obtain ⟨d0, h1, rfl⟩ := enumL_get 0 xs i d hi
  obtain ⟨v, h2, h3⟩ := r.get h1
  refine ⟨⟨vs, v, hsq, h2⟩, fun x H' y => ?_⟩
  obtain ⟨T, x', rfl, hT, rfl, hx⟩ := y
  have ex : x' = v := Option.some.inj ((hx vs hsq).symm.trans h2)
  subst ex
  refine ⟨W'.lay T (.tup [.int ((i : Nat) : Int), x']) hT, rfl, W'.lay_ext hT, w'.lay hT, ?_⟩
  rw [Nat.zero_add]
  exact .tup (W'.lay_nav hT) (.inl upd_same) (.cons (.int _) (.cons (h3.mono (W'.lay_ext hT)) .nil))
theorem call_enumT {prog : Program} {w : World} {A : Around} {E : Value → Shared → Prop} {s : Shared} {t : Addr} {its : Array Value} {Q : Value → Shared → Prop} (ht : s.heap.IsTuple t its)
    (h : Q (.ref (s.heap.objs.size + 1)) { s with heap := (s.heap.push { cls := .type "tuple_iterator", data := .fields #[.ref t, .int 0 0] }).push (enumObj s.heap.objs.size) }) : wpAny (model prog w) A (call (.type "enumerate") [.ref t]) Q E s := by
  refine call_enumO (P := fun it s' => it = s.heap.objs.size ∧ s' = { s with heap := s.heap.push { cls := .type "tuple_iterator", data := .fields #[.ref t, .int 0 0] } }) (fun Q E k => wpAny_pyIter_tuple ht (k _ _ ⟨rfl, rfl⟩)) fun it s' hP => ?_
  obtain ⟨rfl, rfl⟩ := hP
  rw [show (({ s with heap := s.heap.push { cls := .type "tuple_iterator", data := .fields #[.ref t, .int 0 0] } } : Shared).heap.objs.size) = s.heap.objs.size + 1 from Heap.size_push ..]
  exact h
theorem ri_enumX {elts : List Expr} {kk : Nat} (hr : Room 4 G.X.A) (ht : ∀ c f, tab.lookup c = some f → OwnIt G c f) (hg : Gl G.X "enumerate") (hm : G.X.mg "enumerate" = none) (ha : RA G [a] aa) (hs : starEach [a] G.X.env = [(false, eval a G.X.env)] := by exact starEach_ns rfl) : RIX G (.Tuple elts kk tpos) (.Call (.Name "enumerate" p) [a] [] pos) (iEnumX tab aa) := by
  intro σ W env st R wk re hp pins s I
  refine Call_ (ld_blt I hg hm boot_enumerate (PyProof.Rows.callWith_type1 (thn (ha σ W env st (fun vs H => ∃ (q l : Addr) (ys : List V), vs = [.ref q] ∧ ((SqL G.X.K H l ys ∧ R (Ite G.X.K l) H ∧ (q = l ∨ ∃ (c : Nat) (f : Str) (dx : Addr) (ws : List (Str × V)), OwnIt G c f ∧ H q = some (.ins (G.ca c) dx ws) ∧ ws.lookup f = some (.ref l))) ∨ (q = l ∧ SqT G.X.K H l ys ∧ R (Itet G.X.K l) H))) wk re ?_ pos pins s I) fun us s1 hv => ?_) hs rfl))
  · unfold iEnumX at hp
    cases haa : aa env st with
    | bad => rw [haa] at hp; exact hp
    | exc c fs s1 => rw [haa] at hp; exact hp
    | ok ds s1 =>
    rw [haa] at hp
    intro vs W1 e1 w1 r1
    have p1 : PostIX G W σ (kEnumX tab ds s1) R := hp
    unfold kEnumX at p1
    split at p1
    case h_2 => exact p1.elim
    rename_i x
    cases hw : walkX tab x s1 with
    | none => rw [hw] at p1; exact p1.elim
    | some y =>
      rw [hw] at p1
      obtain ⟨gd, xs⟩ := y
      match r1 with
      | .cons r .nil =>
      have p2 : ∀ J, JOkX G.X.K G.ca W1 gd J (enumL 0 xs) → R J W1.h := fun J j => p1 J W1 e1 w1 j
      cases r with
      | cell hgn =>
        rename_i n q
        have hw : (match s1[n]? with
          | some (.lst xs) => some (some (n, xs), xs)
          | _ => none) = some (gd, xs) := hw
        split at hw
        case h_2 => cases hw
        rename_i zs hz
        cases hw
        obtain ⟨vs, hq, rr⟩ := w1.cell n _ _ hgn hz
        exact ⟨_, _, vs, rfl, .inl ⟨.inl (.inl hq), p2 _ (jok_enumC hgn), .inl rfl⟩⟩
      | tup n1 h1 q1 => cases hw; exact ⟨_, _, _, rfl, .inr ⟨rfl, .inl h1, p2 _ (jok_enumT (fun W' kp => .inl (kp.kw.rd n1 h1).2) q1).x⟩⟩
      | tupK h1 q1 => cases hw; exact ⟨_, _, _, rfl, .inr ⟨rfl, h1.sq, p2 _ (jok_enumT (fun W' kp => h1.sq) q1).x⟩⟩
      | lst n1 h1 q1 => cases hw; exact ⟨_, _, _, rfl, .inl ⟨.inl (.inl h1), p2 _ (jok_enum (fun W' k => .inl (.inl (k.keep _ _ n1 h1))) q1).x, .inl rfl⟩⟩
      | fix n1 h1 q1 => cases hw; exact ⟨_, _, _, rfl, .inl ⟨.inl h1, p2 _ (jok_enum (fun W' k => .inl (k.kw.rd n1 h1).2) q1).x, .inl rfl⟩⟩
      | fixK h1 q1 => cases hw; exact ⟨_, _, _, rfl, .inl ⟨h1.sq, p2 _ (jok_enum (fun W' k => h1.sq) q1).x, .inl rfl⟩⟩
      | ins n1 h1 rf =>
        rename_i q dx c ws fs
        have hw : (match walkO tab (.ins c fs) with
          | some xs => some (none, xs)
          | none => none) = some (gd, xs) := hw
        cases hz : walkO tab (.ins c fs) with
        | none => rw [hz] at hw; cases hw
        | some zs =>
          rw [hz] at hw
          cases hw
          obtain ⟨q', l, ys, e, g1, g2, g3, g4⟩ := walkO_at ht (Rep.ins n1 h1 rf) hz
          exact ⟨q', l, ys, by rw [e], .inl ⟨g2, p2 _ (jok_enum g1 g3).x, g4⟩⟩
      | _ => cases hw
  · obtain ⟨vs, H1, I1, rv, q, l, ys, rfl, hc⟩ := hv
    obtain ⟨u, rfl, ru⟩ := vals1 rv
    cases ru
    rcases hc with ⟨hl, hR, hc⟩ | ⟨rfl, hl, hR⟩
    · rcases hc with rfl | ⟨c, f, dx, ws, O, hq, hlk⟩
      · obtain ⟨its, rv, p', hz⟩ := I1.list hl
        refine call_enumerate_list p'.isList fun h' he hit hsz hk => wpAny_pyIter_enum he ?_
        have I2 : Inv G.X pins σ H1 { s1 with heap := h' } := I1.kept (t' := s1.toks) hk
        refine ⟨s1.heap.objs.size + 1, [s1.heap.objs.size + 1, s1.heap.objs.size], _, _, H1, rfl, I2, turn_enum q (s1.heap.objs.size + 1) s1.heap.objs.size, ⟨⟨.none, he⟩, hit, Nat.succ_ne_self _⟩, fun b hb => ?_, hR⟩
        rcases (by simpa using hb : b = s1.heap.objs.size + 1 ∨ b = s1.heap.objs.size) with z | z <;> rw [z]
        · exact I1.fpOk (Nat.le_succ _) (I1.hok.fresh (Nat.le_succ _))
        · exact I1.fpOk (Nat.le_refl _) (I1.hok.fresh (Nat.le_refl _))
      · refine call_enumO (P := fun it s' => Inv G.X pins σ H1 s' ∧ s'.heap.IsListIter it l 0 ∧ FpOk G.X pins H1 it) (fun Q E k => own_iter_at (hr.mono (by omega : 4 ≤ 4)).in1.in1 in1x2 O I1 hq hlk hl fun it s' h1 h2 h3 => k it s' ⟨h1, h2, h3⟩) fun it s' hP => ?_
        obtain ⟨I2, hit, hfp⟩ := hP
        have he : IsEnum (s'.heap.push (enumObj it)) s'.heap.objs.size it 0 .none := Heap.get?_push_size _ rfl
        refine wpAny_pyIter_enum (s := { s' with heap := s'.heap.push (enumObj it) }) he ?_
        have hne : s'.heap.objs.size ≠ it := fun z => by
          obtain ⟨o, e, _⟩ := id hit
          exact Nat.ne_of_lt (Heap.lt_size e) z.symm
        have I3 : Inv G.X pins σ H1 { s' with heap := s'.heap.push (enumObj it) } := I2.kept (t' := s'.toks) fun b o e => Heap.get?_push_of_some _ e
        refine ⟨s'.heap.objs.size, [s'.heap.objs.size, it], _, _, H1, rfl, I3, turn_enum l s'.heap.objs.size it, ⟨⟨.none, he⟩, hit.at fun o e => Heap.get?_push_of_some _ e, hne⟩, fun b hb => ?_, hR⟩
        rcases (by simpa using hb : b = s'.heap.objs.size ∨ b = it) with z | z
        · rw [z]; exact I2.fpOk (Nat.le_refl _) (I2.hok.fresh (Nat.le_refl _))
        · rw [z]; exact hfp
    · obtain ⟨its, rv, p', hz⟩ := I1.tuple hl
      have hti : s1.heap.IsTuple q its.toArray := p'
      have hql : q < s1.heap.objs.size := by
        obtain ⟨o, e, _⟩ := id hti
        exact Heap.lt_size e
      refine call_enumT hti ?_
      have he : IsEnum ((s1.heap.push { cls := .type "tuple_iterator", data := .fields #[.ref q, .int 0 0] }).push (enumObj s1.heap.objs.size)) (s1.heap.objs.size + 1) s1.heap.objs.size 0 .none := by
        have := Heap.get?_push_size (s1.heap.push { cls := .type "tuple_iterator", data := .fields #[.ref q, .int 0 0] }) (o := enumObj s1.heap.objs.size) rfl
        rw [Heap.size_push] at this
        exact this
      refine wpAny_pyIter_enum (s := { s1 with heap := (s1.heap.push { cls := .type "tuple_iterator", data := .fields #[.ref q, .int 0 0] }).push (enumObj s1.heap.objs.size) }) he ?_
      have kp : ∀ b o, s1.heap.get? b = some o → ((s1.heap.push { cls := .type "tuple_iterator", data := .fields #[.ref q, .int 0 0] }).push (enumObj s1.heap.objs.size)).get? b = some o := fun b o e => Heap.get?_push_of_some _ (Heap.get?_push_of_some _ e)
      have I2 : Inv G.X pins σ H1 { s1 with heap := (s1.heap.push { cls := .type "tuple_iterator", data := .fields #[.ref q, .int 0 0] }).push (enumObj s1.heap.objs.size) } := I1.kept (t' := s1.toks) kp
      have n1 : q ≠ s1.heap.objs.size := Nat.ne_of_lt hql
      have n2 : s1.heap.objs.size + 1 ≠ q := Nat.ne_of_gt (Nat.lt_succ_of_lt hql)
      refine ⟨s1.heap.objs.size + 1, [s1.heap.objs.size + 1, s1.heap.objs.size], _, _, H1, rfl, I2, turn_enumT q (s1.heap.objs.size + 1) s1.heap.objs.size n1 n2 (Nat.succ_ne_self _), ⟨⟨.none, he⟩, ⟨_, Heap.get?_push_of_some _ (Heap.get?_push_size _ rfl), rfl, rfl⟩⟩, fun b hb => ?_, hR⟩
      rcases (by simpa using hb : b = s1.heap.objs.size + 1 ∨ b = s1.heap.objs.size) with z | z <;> rw [z]
      · exact I1.fpOk (Nat.le_succ _) (I1.hok.fresh (Nat.le_succ _))
      · exact I1.fpOk (Nat.le_refl _) (I1.hok.fresh (Nat.le_refl _))
end
theorem fi_mk {K : PySem.W.Frag} {C f0 : Addr} {name : Str} (h1 : PySem.W.findIn K (.ref C) name = some (some (.ref f0))) (h2 : PySem.W.fnIn K f0 = true) : ∀ f, PySem.W.findIn K (.ref C) name = some (some (.ref f)) → PySem.W.fnIn K f = true := fun f h => by
  rw [h1] at h
  cases h
  exact h2
end Mi
/-! MiMore3: list.clear and list.extend of cells; for over a value that may be a cell. -/
namespace Mi
open PySem PySem.Spec PyProof.Rows L2 ItX
section
variable {G : Gx} {tg a : Expr} {ma : EM} {tab : List (Nat × Str)}
def clrD : D → List D → M D := fun x ds st => match x, ds with
  | .cell n, [] => (match st[n]? with
    | some (.lst _) => .ok .non (st.set n (.lst []))
    | _ => .bad)
  | _, _ => .bad
theorem md_clear : MtD G "list.clear" clrD := by
  intro σ W st x vs dx ds Q wk rx rv p
  unfold clrD at p
  split at p
  · rename_i n
    cases rx with
    | cell hg =>
      rename_i q
      cases rv
      cases hs : st[n]? with
      | none => rw [hs] at p; exact p.elim
      | some c =>
        rw [hs] at p
        cases c with
        | lst xs =>
          obtain ⟨ys, h1, h2⟩ := wk.cell n q _ hg hs
          have hne : W.h q ≠ none := by rw [h1]; exact fun z => by cases z
          obtain ⟨e1, w1⟩ := cell_wr (o := .lst []) (c := .lst []) wk hg hne ⟨_, upd_same, .nil⟩
          exact ⟨_, mt_clear, q, ys, rfl, rfl, h1, p .non _ e1 w1 .non⟩
        | _ => exact p.elim
  · exact p.elim
def extD : D → List D → M D := fun x ds st => match x, ds with
  | .cell n, [.lst zs] => (match st[n]? with
    | some (.lst xs) => if xs.length + zs.length ≤ LIM then .ok .non (st.set n (.lst (xs ++ zs))) else .bad
    | _ => .bad)
  | _, _ => .bad
theorem md_ext : MtD G "list.extend" extD := by
  intro σ W st x vs dx ds Q wk rx rv p
  unfold extD at p
  split at p
  · rename_i n zs
    cases rx with
    | cell hg =>
      rename_i q
      cases rv with
      | cons r1 rr =>
      cases rr
      cases hs : st[n]? with
      | none => rw [hs] at p; exact p.elim
      | some c =>
        rw [hs] at p
        cases c with
        | lst xs =>
          dsimp only at p
          by_cases hl : xs.length + zs.length ≤ LIM
          · rw [if_pos hl] at p
            obtain ⟨ys, h1, h2⟩ := wk.cell n q _ hg hs
            obtain ⟨b, us, rfl, nb, hb, rb⟩ := r1.atL
            have hne : W.h q ≠ none := by rw [h1]; exact fun z => by cases z
            have kk := W.wr_kp (o := .lst (ys ++ us)) hne (W.gav q (List.mem_of_getElem? hg))
            obtain ⟨e1, w1⟩ := cell_wr (o := .lst (ys ++ us)) (c := .lst (xs ++ zs)) wk hg hne ⟨_, upd_same, (h2.kp kk).append (rb.kp kk)⟩
            exact ⟨_, mt_extend, q, b, ys, us, rfl, rfl, h1, hb, lim_le (by rw [h2.length, rb.length]; exact hl), p .non _ e1 w1 .non⟩
          · rw [if_neg hl] at p; exact p.elim
        | _ => exact p.elim
  · exact p.elim
/-! ### for x in v -/
def kValX (tab : List (Nat × Str)) (x : D) : M XI := fun s => match x with
  | .cell n => (match s[n]? with
    | some (.lst xs) => .ok (some (n, xs), xs) s
    | _ => .bad)
  | x => (match iOwn tab (eC x) [] s with
    | .ok ds s2 => .ok (none, ds) s2
    | .exc c fs s2 => .exc c fs s2
    | .bad => .bad)
def iValX (tab : List (Nat × Str)) (a : EM) : XM := fun env st => (a env st).bind (kValX tab)
theorem jok_listC {K : PySem.W.Frag} {ca : Nat → Addr} {W : Wd} {n : Nat} {q : Addr} {xs : List D} (hg : W.g[n]? = some q) : JOkX K ca W (some (n, xs)) (Itl K q) xs := by
  intro W' st' k w' g
  have g : st'[n]? = some (.lst xs) := g
  have hg' : W'.g[n]? = some q := by
    obtain ⟨l, e, _⟩ := k.pre
    rw [e, List.getElem?_append_left (List.getElem?_eq_some_iff.mp hg).1]
    exact hg
  obtain ⟨vs, hq, r⟩ := w'.cell n q _ hg' g
  have hsq : SqL K W'.h q vs := .inl (.inl hq)
  refine ⟨fun i d hi => ?_, vs, hsq, by rw [r.length]; exact Nat.le_refl _⟩
  obtain ⟨v, h2, h3⟩ := r.get hi
  refine ⟨⟨vs, v, hsq, h2⟩, fun x H' y => ?_⟩
  obtain ⟨rfl, hx⟩ := y
  have ex : x = v := Option.some.inj ((hx vs hsq).symm.trans h2)
  subst ex
  exact ⟨W', rfl, Ext.refl W', w', h3⟩
theorem ri_valX (tk : Takes G.X G.E) (hr : Room 2 G.X.A) (ht : ∀ c f, tab.lookup c = some f → OwnIt G c f) (ha : RE G a ma) : RIX G tg a (iValX tab ma) := by
  intro σ W env st R w re hp
  by_cases hc : ∃ n s1, ma env st = .ok (.cell n) s1
  · obtain ⟨n, s1, hm⟩ := hc
    unfold iValX at hp
    rw [hm] at hp
    have hp : PostIX G W σ (match s1[n]? with
      | some (.lst xs) => .ok (some (n, xs), xs) s1
      | _ => .bad) R := hp
    refine qi_of (pi_list pe_q) ?_
    refine ha σ W env st _ w re ?_
    rw [hm]
    intro v W1 e1 w1 r1
    cases r1 with
    | cell hg =>
      split at hp
      case h_2 => exact hp.elim
      rename_i xs hs
      obtain ⟨vs, hq, rr⟩ := w1.cell n _ _ hg hs
      exact ⟨_, rfl, ⟨vs, .inl (.inl hq)⟩, hp _ W1 e1 w1 (jok_listC hg)⟩
  · refine ri_own tk hr ht ha σ W env st R w re ?_
    unfold iValX at hp
    unfold iOwn
    cases hm : ma env st with
    | bad => rw [hm] at hp; exact hp
    | exc c fs s1 => rw [hm] at hp; exact hp
    | ok d s1 =>
      rw [hm] at hp
      have hp : PostIX G W σ (kValX tab d s1) R := hp
      have hk : kValX tab d s1 = (match iOwn tab (eC d) [] s1 with
        | .ok ds s2 => .ok (none, ds) s2
        | .exc c fs s2 => .exc c fs s2
        | .bad => .bad) := by
        unfold kValX
        split
        · exact absurd ⟨_, _, hm⟩ hc
        · rfl
      rw [hk] at hp
      show PostI G W σ (iOwn tab (eC d) [] s1) R
      cases hi : iOwn tab (eC d) [] s1 with
      | bad => rw [hi] at hp; exact hp
      | exc c fs s2 => rw [hi] at hp; exact hp
      | ok ds s2 =>
        rw [hi] at hp
        exact fun J W' e w j => hp J W' e w j.x
end
end Mi
/-! MiProp: raise X() of a class without own __init__; a property read; sum; abs of an own instance. -/
namespace PySem.W
open PySem PySem.Calls PyProof.Rows Builtin
theorem mi_abs_K {prog : Program} {w : World} {A : Around} {E : Value → Shared → Prop} {s : Shared} {K : Frag} {x C L f : Addr} {h₀ : Heap} {m : Str → Option Value} {ox : Obj} {od : Option Obj} {Q : Value → Shared → Prop} (F : Fr h₀ L s.heap m) (X₀ : K.In h₀) (I : InstAt s.heap x ox C od) (hs : findIn K (.ref C) "__abs__" = some (some (.ref f))) (hf : isFn K (.ref f) = true)
    (h : wpAny (model prog w) A.in1 (call (.ref f) [.ref x]) Q E s) : wpAny (model prog w) A (call (.builtin "abs") [.ref x]) Q E s := by
  refine Calls.call_function_entry kind_abs plain_abs entry_abs (args_abs _) ?_
  unfold Builtin.«abs»
  refine wpAny_bind (m := oneArg "abs" _) (wpAny_pure ?_)
  refine wpAny_bind (m := callSpecial? (.ref x) (Str.ofString "__abs__")) (special_fn (X₀.keeps F.keep) I hs (beq_iff_eq.mp hf) (wpAny_mono h (fun r s' hr => ?_) fun _ _ y => y))
  exact wpAny_pure ⟨_, rfl, hr⟩
end PySem.W
namespace Mi
open PySem PySem.Spec PyProof.Rows L2 ItX
section
variable {G : Gx} {k : Nat} {tab : Tab}
/-! ### abs -/
def ownOne (tab : Tab) (x : D) : M D := fun st => match clsOf x st with
  | some (c, _) => (match tab.lookup c with
    | some g => g [x] st
    | none => .bad)
  | none => .bad
def absO (tab : Tab) : List D → M D := fun ds st => match ds with
  | [.int i] => .ok (.int (if i < 0 then -i else i)) st
  | [x] => ownOne tab x st
  | _ => .bad
theorem kd_absO (tk : Takes G.X G.E) (hr : Room (k + 1) G.X.A) (ht : TabOk G k "__abs__" 1 tab) : CallD G (.builtin "abs") (absO tab) := by
  intro σ W st vs ds Q wk r p
  unfold absO at p
  split at p
  · rename_i i
    cases r with
    | cons r1 rr =>
      cases rr
      cases r1
      exact qc_of call_abs ⟨i, rfl, p _ W (Ext.refl W) wk (.int _)⟩
  · rename_i x _
    cases r with
    | cons r1 rr =>
      cases rr
      unfold ownOne at p
      cases h1 : clsOf x st with
      | none => rw [h1] at p; exact p.elim
      | some cf =>
        obtain ⟨c, fs⟩ := cf
        rw [h1] at p
        dsimp only at p
        cases hg : tab.lookup c with
        | none => rw [hg] at p; exact p.elim
        | some g =>
          rw [hg] at p
          dsimp only at p
          obtain ⟨f, D1, f1, f2, f3⟩ := ht c g hg
          obtain ⟨a, d1, ws, rfl, ha, _⟩ := clsOf_at wk r1 h1
          intro pins s us I rv
          cases rv with
          | cons rv1 rvr =>
            cases rvr
            cases rv1
            obtain ⟨ox, od, J⟩ := inst_at I ha
            obtain ⟨m, hF⟩ := I.fr
            exact PySem.W.mi_abs_K hF I.ok.mod.kin J f1 f2 (D1.run tk hr.in1 (in1_frames _) wk (.cons r1 .nil) rfl p I (.cons rfl .nil))
  · exact p.elim
/-! ### sum -/
def intsOf : List D → Option (List Int)
  | [] => some []
  | .int i :: ds => (intsOf ds).map (i :: ·)
  | _ => none
theorem ints_rep {K : PySem.W.Frag} {ca : Nat → Addr} {W : Wd} : ∀ {vs : List V} {ds : List D} {is : List Int}, Reps K ca W vs ds → intsOf ds = some is → vs = is.map V.int
  | _, [], is, .nil, h => by cases h; rfl
  | _, d :: ds, is, .cons r t, h => by
    cases d with
    | int i =>
      rw [intsOf] at h
      cases e : intsOf ds with
      | none => rw [e] at h; cases h
      | some js =>
        rw [e] at h
        cases h
        cases r
        rw [ints_rep t e]
        rfl
    | _ => cases h
def sumD : List D → M D := fun ds st => match ds with
  | [x] => (match seqOf x st with
    | some xs => (match intsOf xs with
      | some is => .ok (.int is.sum) st
      | none => .bad)
    | none => .bad)
  | _ => .bad
theorem kd_sum (hc : G.X.calm = true) : CallD G (.builtin "sum") sumD := by
  intro σ W st vs ds Q wk r p
  unfold sumD at p
  split at p
  · rename_i x
    cases r with
    | cons r1 rr =>
      cases rr
      cases hs : seqOf x st with
      | none => rw [hs] at p; exact p.elim
      | some xs =>
        rw [hs] at p
        dsimp only at p
        cases hb : intsOf xs with
        | none => rw [hb] at p; exact p.elim
        | some is =>
          rw [hb] at p
          obtain ⟨q, ys, rfl, s1, r1⟩ := seqOf_at wk r1 hs
          have e := ints_rep r1 hb
          subst e
          exact qc_of (cr_sum hc) ⟨q, is, rfl, s1, p _ W (Ext.refl W) wk (.int _)⟩
  · exact p.elim
/-! ### a property -/
structure PrOk (G : Gx) (k : Nat) (name : Str) (c : Nat) (g : List D → M D) : Prop where
  cl : Cls G.X.K (G.ca c)
  pr : ∃ p f, PropOf G.X.K (G.ca c) name p f ∧ Df G k f 1 g
def PrsOk (G : Gx) (k : Nat) (name : Str) (tab : Tab) : Prop := ∀ c g, tab.lookup c = some g → PrOk G k name c g
theorem pr_nil {name : Str} : PrsOk G k name [] := fun c g h => by cases h
theorem pr_cons {name : Str} {c : Nat} {g : List D → M D} (h : PrOk G k name c g) (t : PrsOk G k name tab) : PrsOk G k name ((c, g) :: tab) := fun c' g' e => by
  rw [List.lookup_cons] at e
  cases q : c' == c with
  | true =>
    rw [q] at e
    cases e
    rw [beq_iff_eq.mp q]
    exact h
  | false => rw [q] at e; exact t c' g' e
/-- what must not raise -/
def noX (r : Res D) : Res D := match r with
  | .ok d s => .ok d s
  | _ => .bad
def propO (tab : Tab) (x : D) : M D := fun st => noX (ownOne tab x st)
def eProp (tab : Tab) (o : EM) : EM := fun env st => (o env st).bind (propO tab)
theorem re_prop {name : Str} {o : Expr} {ma : EM} {pos : Pos} (hr : Room (k + 1) G.X.A) (ht : PrsOk G k name tab) (ho : RE G o ma) (hab : attributeBase o name G.X.env (eval o G.X.env) = eval o G.X.env := by first | exact abase_ns rfl | rfl) :
    RE G (.Attribute o name pos) (eProp tab ma) := by
  intro σ W env st Q wk re hp pins s I
  refine attr_of hab (thn (ho σ W env st (fun x H => ∃ (c : Nat) (g : List D → M D) (a dx : Addr) (ws : List (Str × V)), x = .ref a ∧ H a = some (.ins (G.ca c) dx ws) ∧ tab.lookup c = some g ∧ spM G.X.K G.ca 1 g [x] H Q E0) wk re (bindEE hp fun d s1 x W1 e1 w1 r1 p1 => ?_) pins s I) fun u s1 hu => ?_)
  · unfold propO ownOne at p1
    cases h1 : clsOf d s1 with
    | none => rw [h1] at p1; exact p1.elim
    | some cf =>
      obtain ⟨c, fs⟩ := cf
      rw [h1] at p1
      dsimp only at p1
      cases hg : tab.lookup c with
      | none => rw [hg] at p1; exact p1.elim
      | some g =>
        rw [hg] at p1
        dsimp only at p1
        obtain ⟨a, d1, ws, rfl, ha, _⟩ := clsOf_at w1 r1 h1
        refine ⟨c, g, a, d1, ws, rfl, ha, hg, W1, s1, [d], rfl, w1, .cons r1 .nil, rfl, ?_⟩
        cases hm : g [d] s1 with
        | ok z s2 => rw [hm] at p1; exact p1
        | exc _ _ _ => rw [hm] at p1; exact p1.elim
        | bad => rw [hm] at p1; exact p1.elim
  · obtain ⟨x, H1, I1, rx, cc, g, a, dx, ws, rfl, ea, hg, q⟩ := hu
    obtain rfl : u = Value.ref a := rx
    obtain ⟨c, p, f, hp, D1⟩ := ht _ g hg
    obtain ⟨fd, ps, F, hb⟩ := D1.ok
    exact getprop_ok I1 ea c hp F hr hb .nil passL q
end
/-! ### raise X() -/
section
variable {G : Gx} {x : Str} {c : Nat} {p pos pos2 : Pos}
def sRaise0 (c : Nat) : SM := fun env st => .exc env c [] st
theorem pmk_own0 {X : Cx} {C : Addr} {bmB : List Value} {B newId initId : String} (F : ExcBaseFacts B newId initId bmB) (q : PySem.W.excIn X.K C bmB newId = true) (gC : X.mg x = some (.ref C)) (kC : PySem.W.keepIn X.K (.ref C) = true) (r : Raises X (.ref C)) (hg : Gl X x)
    (hdb : (x == ("__debug__" : Str)) = false := by decide) : PMk X (.Call (.Name x p) [] [] pos) (fun σ H Q => Q (.ref C) none H) := by
  intro pins s σ H Q I h
  refine wpAny_Call_Name_kw (ld_glob I hg gC ?_ hdb)
  refine PySem.W.callWith_K0 I.kIn kC ?_
  show wpAny _ _ (call (.ref C) []) _ _ _
  obtain ⟨bm, N, nm, qn, bs, hdct, sn, sub, ab, col, dd, k0, k1, k2, k3, k5, mN, hC, hN, hni, T⟩ := exc_obj I.kIn q
  refine wpAny_call_exc_subT F T hC hN hni (fun h' e hm => ?_) (by show 0 ≤ sizeLine; rw [sizeLine_eq]; omega)
  exact mk_of I hm r h (I.hok.gone hm.new)
theorem rs_raise0 {bmB : List Value} {B newId initId : String} (hc : G.X.calm = true) (tk : Takes G.X G.E) (F : ExcBaseFacts B newId initId bmB) (q : PySem.W.excIn G.X.K (G.ca c) bmB newId = true) (gC : G.X.mg x = some (.ref (G.ca c))) (kC : PySem.W.keepIn G.X.K (.ref (G.ca c)) = true) (r : Raises G.X (.ref (G.ca c))) (hg : Gl G.X x)
    (hdb : (x == ("__debug__" : Str)) = false := by decide) : RS G (.Raise (some (.Call (.Name x p) [] [] pos)) none pos2) (sRaise0 c) := by
  intro σ W env st Dn w re hp
  refine qs_of (ps_raise hc tk (pmk_own0 F q gC kC r hg hdb)) ?_
  have hp : PostS G W σ env (.exc env c [] st) Dn := hp
  exact hp σ none W (ExtS.refl W σ env) w re (.inl ⟨rfl, rfl⟩)
end
end Mi
/-! MiNew0: instances of classes without __init__; class constants read through an instance. -/
namespace NwA
open PySem PySem.W PySem.Calls PyProof.Rows Builtin
theorem mi_init_oi {prog : Program} {w : World} {A : Around} {K : Frag} {C y : Addr} {o : Obj} {s : Shared} {R : Result → Shared → Prop} (X : K.In s.heap) (ho : s.heap.get? y = some o) (hc : o.cls = .ref C) (top : mroIn K C (.type "object") = some true)
    (q : R (.ok (.ret .none)) s) : codeAny (model prog w) A (.call (.builtin "object.__init__") ⟨[.ref y], []⟩) R s := by
  have t1 : Looks (model prog w) s.heap (typeOf (.ref y)) (.ref C) := type_at ho hc
  have t2 : Looks (model prog w) s.heap (isInstance (.ref y) (.type "object")) true := t1.andThen (looks_mroIn X top)
  refine codeAny_call_builtin oi_plain entry_oi (@check_slot (model prog w) _ _ _ "object.__init__" "object" "__init__" (.ref y) [] [] _ oi_kind oi_split t2 (oi_args_any (.ref y) [] []) ?_)
  obtain ⟨hh, g, d, t, os⟩ := s
  rw [oi_run]
  exact wpAny_pure q
theorem mi_bind_oi {M : Model} {h : Heap} (self : Value) : Looks M h (bindSpecial (.builtin "object.__init__") self) (.builtin "object.__init__", [self]) := Looks.of_pure (oi_bind _)
end NwA
namespace Mi
open PySem PySem.Spec PyProof.Rows L2 ItX
section
variable {G : Gx} {c : Nat}
structure Mk0 (K : PySem.W.Frag) (C : Addr) : Prop where
  makes : PySem.W.makesIn K C = true
  init : PySem.W.findIn K (.ref C) "__init__" = some (some (.builtin "object.__init__"))
  top : PySem.W.mroIn K C (.type "object") = some true
def mNew0 (c : Nat) : List D → M D := fun ds st => match ds with
  | [] => .ok (.ins c []) st
  | _ => .bad
theorem call_new0 (M : Mk0 G.X.K (G.ca c)) : CallD G (.ref (G.ca c)) (mNew0 c) := by
  intro σ W st vs ds Q wk r p
  unfold mNew0 at p
  split at p
  · cases r
    intro pins s us I rv
    cases rv
    have hx : W.h (s.heap.objs.size + 1) = none := I.hok.fresh (Nat.le_succ _)
    have hdx : W.h s.heap.objs.size = none := I.hok.fresh (Nat.le_refl _)
    have ne : s.heap.objs.size ≠ s.heap.objs.size + 1 := Nat.ne_of_lt (Nat.lt_succ_self _)
    have hdx' : (W.lay s.heap.objs.size (.own (s.heap.objs.size + 1)) hdx).h (s.heap.objs.size + 1) = none := by
      show upd W.h s.heap.objs.size (.own (s.heap.objs.size + 1)) (s.heap.objs.size + 1) = none
      rw [upd_ne (Ne.symm ne)]; exact hx
    have I2 := Inv.made (C := G.ca c) I
    refine wpAny_call (make_map0 I.kIn M.makes M.init (fun self => NwA.mi_bind_oi self) (NwA.mi_init_oi (C := G.ca c) I2.kIn (by heap_get) rfl M.top ?_))
    have q3 := p (.ref (s.heap.objs.size + 1)) ((W.lay s.heap.objs.size (.own (s.heap.objs.size + 1)) hdx).lay (s.heap.objs.size + 1) (.ins (G.ca c) s.heap.objs.size []) hdx') ((W.lay_ext hdx).trans (Wd.lay_ext _ hdx')) ((wk.lay hdx).lay hdx') (.ins (Wd.lay_nav _ hdx') upd_same .nil)
    exact ⟨rfl, ⟨V.ref (s.heap.objs.size + 1), _, I2, rfl, q3⟩⟩
  · exact p.elim
/-! ### o.NAME -/
def ConsOk (G : Gx) (f : Str) (tab : List (Nat × D)) : Prop := ∀ c d, tab.lookup c = some d → Cls G.X.K (G.ca c) ∧ ∃ v u, Con G.X.K (G.ca c) f v u ∧ ∀ W, Rep G.X.K G.ca W v d
theorem co_nil {f : Str} : ConsOk G f [] := fun c d h => by cases h
theorem co_cons {f : Str} {d : D} {v : V} {tab : List (Nat × D)} (cl : Cls G.X.K (G.ca c)) (k : ∃ u, Con G.X.K (G.ca c) f v u) (r : ∀ W, Rep G.X.K G.ca W v d) (t : ConsOk G f tab) : ConsOk G f ((c, d) :: tab) := fun c' d' e => by
  rw [List.lookup_cons] at e
  cases q : c' == c with
  | true =>
    rw [q] at e
    cases e
    rw [beq_iff_eq.mp q]
    obtain ⟨u, k⟩ := k
    exact ⟨cl, v, u, k, r⟩
  | false => rw [q] at e; exact t c' d' e
def conO (tab : List (Nat × D)) (f : Str) (x : D) : M D := fun st => match clsOf x st with
  | some (c, fs) => (match fs.lookup f, tab.lookup c with
    | none, some d => .ok d st
    | _, _ => .bad)
  | none => .bad
def eCon (tab : List (Nat × D)) (f : Str) (o : EM) : EM := fun env st => (o env st).bind (conO tab f)
theorem re_con {f : Str} {o : Expr} {ma : EM} {pos : Pos} {tab : List (Nat × D)} (ht : ConsOk G f tab) (ho : RE G o ma) (hab : attributeBase o f G.X.env (eval o G.X.env) = eval o G.X.env := by first | exact abase_ns rfl | rfl) : RE G (.Attribute o f pos) (eCon tab f ma) := by
  intro σ W env st Q wk re hp
  refine qe_of (pe_con pe_q hab) ?_
  refine ho σ W env st _ wk re (bindEE hp fun d s1 x W1 e1 w1 r1 p1 => ?_)
  unfold conO at p1
  cases h1 : clsOf d s1 with
  | none => rw [h1] at p1; exact p1.elim
  | some cf =>
    obtain ⟨c, fs⟩ := cf
    rw [h1] at p1
    dsimp only at p1
    cases hl : fs.lookup f with
    | some _ => rw [hl] at p1; exact p1.elim
    | none =>
      rw [hl] at p1
      cases hg : tab.lookup c with
      | none => rw [hg] at p1; exact p1.elim
      | some d2 =>
        rw [hg] at p1
        obtain ⟨a, dx, ws, rfl, ha1, rf⟩ := clsOf_at w1 r1 h1
        obtain ⟨cl, v, u, k, rd⟩ := ht c d2 hg
        exact ⟨a, _, dx, ws, v, u, rfl, ha1, cl, k, rf.none hl, p1 v W1 (Ext.refl W1) w1 (rd W1)⟩
/-! ### powers of great numbers -/
theorem op_powB {X : Cx} : OpR X (binaryOp .Pow) (rI (fun i j => 0 ≤ j ∧ j ≤ 10000 ∧ i.natAbs < 2 ^ 1000) fun i j => .int (i ^ j.toNat)) := opI fun i j _ _ _ _ _ hc q => pow_int hc.1 (by
  have hb : Builtin.Int.intBits i ≤ 1000 := intBits_le hc.2.2
  have h1 : (Builtin.Int.intBits i : Int) * j ≤ 1000 * j := Int.mul_le_mul_of_nonneg_right (by omega) hc.1
  have h2 := hc.2.1
  omega) q
noncomputable def opPowB : D → D → M D := fun x y st => match x, y with
  | .int i, .int j => cif (0 ≤ j ∧ j ≤ 10000 ∧ i.natAbs < 2 ^ 1000) (.ok (.int (i ^ j.toNat)) st) .bad
  | _, _ => .bad
theorem od_powB : OpD G (binaryOp .Pow) opPowB := by
  intro σ W st x y dx dy Q wk rx ry p
  unfold opPowB at p
  split at p
  · rename_i i j
    cases rx; cases ry
    by_cases hc : 0 ≤ j ∧ j ≤ 10000 ∧ i.natAbs < 2 ^ 1000
    · rw [cif_pos hc] at p
      exact qo_of op_powB ⟨i, j, rfl, rfl, hc, p _ W (Ext.refl W) wk (.int _)⟩
    · rw [cif_neg hc] at p; exact p.elim
  · exact p.elim
end
end Mi
/-! MiDict: dicts of ints and texts as cells. -/
namespace Mi
open PySem PySem.Spec PyProof.Rows L2 ItX
def valD (kvs : List (Key × D)) (k : Key) : Option D := (kvs.find? fun kv => decide (kv.1 = k)).map (·.2)
def putDk (kvs : List (Key × D)) (k : Key) (d : D) : List (Key × D) :=
  if (kvs.any fun kv => decide (kv.1 = k)) = true then kvs.map (fun kv => if kv.1 = k then (kv.1, d) else kv) else kvs ++ [(k, d)]
def keyD : D → Option Key
  | .int i => some (.inl i)
  | .str s => some (.inr s)
  | _ => none
section
variable {K : PySem.W.Frag} {ca : Nat → Addr} {W : Wd}
abbrev PKV (K : PySem.W.Frag) (ca : Nat → Addr) (W : Wd) (ws : List (Key × V)) (kvs : List (Key × D)) : Prop := Paired (fun (a : Key × V) (b : Key × D) => a.1 = b.1 ∧ Rep K ca W a.2 b.2) ws kvs
theorem key_rep {d : D} {v : V} {k : Key} (h : keyD d = some k) (r : Rep K ca W v d) : v = kV k := by
  cases d with
  | int i => cases h; cases r; rfl
  | str s => cases h; cases r; rfl
  | _ => cases h
theorem pk_val {ws : List (Key × V)} {kvs : List (Key × D)} (k : Key) (h : PKV K ca W ws kvs) : (valV ws k = none ∧ valD kvs k = none) ∨ ∃ v d, valV ws k = some v ∧ valD kvs k = some d ∧ Rep K ca W v d := by
  induction h with
  | nil => exact .inl ⟨rfl, rfl⟩
  | @cons a b as bs r t ih =>
    obtain ⟨r1, r2⟩ := r
    by_cases e : a.1 = k
    · exact .inr ⟨a.2, b.2, by simp [valV, e], by simp [valD, ← r1, e], r2⟩
    · have e' : ¬ b.1 = k := by rw [← r1]; exact e
      rcases ih with ⟨h1, h2⟩ | ⟨v, d, h1, h2, h3⟩
      · exact .inl ⟨by rw [valV_neg e]; exact h1, by simpa [valD, e'] using h2⟩
      · exact .inr ⟨v, d, by rw [valV_neg e]; exact h1, by simpa [valD, e'] using h2, h3⟩
theorem pk_any {ws : List (Key × V)} {kvs : List (Key × D)} (k : Key) (h : PKV K ca W ws kvs) : (ws.any fun kv => decide (kv.1 = k)) = (kvs.any fun kv => decide (kv.1 = k)) := by
  induction h with
  | nil => rfl
  | cons r t ih => rw [List.any_cons, List.any_cons, ih, r.1]
theorem pk_map {ws : List (Key × V)} {kvs : List (Key × D)} {v : V} {d : D} (k : Key) (h : PKV K ca W ws kvs) (rv : Rep K ca W v d) : PKV K ca W (ws.map fun kv => if kv.1 = k then (kv.1, v) else kv) (kvs.map fun kv => if kv.1 = k then (kv.1, d) else kv) := by
  induction h with
  | nil => exact .nil
  | @cons a b as bs r t ih =>
    refine .cons ?_ ih
    dsimp only
    by_cases e : a.1 = k
    · have e' : b.1 = k := by rw [← r.1]; exact e
      rw [if_pos e, if_pos e']
      exact ⟨r.1, rv⟩
    · have e' : ¬ b.1 = k := by rw [← r.1]; exact e
      rw [if_neg e, if_neg e']
      exact r
theorem pk_app {ws : List (Key × V)} {kvs : List (Key × D)} {v : V} {d : D} (k : Key) (h : PKV K ca W ws kvs) (rv : Rep K ca W v d) : PKV K ca W (ws ++ [(k, v)]) (kvs ++ [(k, d)]) := by
  induction h with
  | nil => exact .cons ⟨rfl, rv⟩ .nil
  | cons r t ih => exact .cons r ih
theorem pk_put {ws : List (Key × V)} {kvs : List (Key × D)} {v : V} {d : D} (k : Key) (h : PKV K ca W ws kvs) (rv : Rep K ca W v d) : PKV K ca W (putK ws k v) (putDk kvs k d) := by
  unfold putK putDk
  rw [pk_any k h]
  split
  · exact pk_map k h rv
  · exact pk_app k h rv
theorem pk_len {ws : List (Key × V)} {kvs : List (Key × D)} (h : PKV K ca W ws kvs) : ws.length = kvs.length := Paired.length h
theorem pk_kp {W' : Wd} {ws : List (Key × V)} {kvs : List (Key × D)} (e : Kp W W') (h : PKV K ca W ws kvs) : PKV K ca W' ws kvs := Paired.mapP h fun a b z => ⟨z.1, z.2.kp e⟩
end
section
variable {G : Gx} {o e e2 : Expr} {mo me m2 : EM} {pos apos cpos : Pos}
/-! ### {} -/
def eDict0 : EM := fun _ st => .ok (.cell st.length) (st ++ [.dk []])
theorem re_dict0 : RE G (.Dict [] [] pos) eDict0 := by
  intro σ W env st Q wk re hp
  refine qe_of pe_dnewK ?_
  intro p hn
  have hpn : (W.lay p (.dK []) hn).h p ≠ none := by
    show upd W.h p _ p ≠ none
    rw [upd_same]; exact fun z => by cases z
  have e2 : Ext W ((W.lay p (.dK []) hn).own p hpn) := Wd.own_ext (W.lay_ext hn) hn hpn
  have w2 : WOk G.X.K G.ca ((W.lay p (.dK []) hn).own p hpn) st := wk.own hn hpn
  have hh : ((W.lay p (.dK []) hn).own p hpn).h p = some (.dK []) := upd_same
  have hv : ((W.lay p (.dK []) hn).own p hpn).av p := .inr rfl
  have ng : p ∉ ((W.lay p (.dK []) hn).own p hpn).g := fun z => W.trk p (W.gav p z) hn
  have hp' : Post G W σ (.ok (.cell st.length) (st ++ [.dk []])) Q := hp
  refine hp' (.ref p) (((W.lay p (.dK []) hn).own p hpn).cel p hpn) (Wd.cel_ext e2 hn hpn) (w2.cel hv ng hpn ⟨[], hh, .nil⟩) (.cell ?_)
  show (((W.lay p (.dK []) hn).own p hpn).g ++ [p])[st.length]? = some p
  rw [← w2.len, List.getElem?_append_right (Nat.le_refl _), Nat.sub_self]
  rfl
/-! ### d.get(k) -/
def isDk (x : D) (st : Sto) : Bool := match x with
  | .cell n => (match st[n]? with
    | some (.dk _) => true
    | _ => false)
  | _ => false
theorem isDk_at {x : D} {st : Sto} (h : isDk x st = true) : ∃ n kvs, x = .cell n ∧ st[n]? = some (.dk kvs) := by
  unfold isDk at h
  split at h
  · rename_i n
    split at h
    · rename_i kvs hs
      exact ⟨n, kvs, rfl, hs⟩
    · cases h
  · cases h
def getDk (x y : D) : M D := fun st => match x, keyD y with
  | .cell n, some k => (match st[n]? with
    | some (.dk kvs) => .ok ((valD kvs k).getD .non) st
    | _ => .bad)
  | _, _ => .bad
def kDGet (me : EM) (env : En) (x : D) : M D := fun s1 => if isDk x s1 = true then (me env s1).bind (getDk x) else .bad
def eDGet (mo me : EM) : EM := fun env st => (mo env st).bind (kDGet me env)
theorem re_dget1 {k : Nat} (hr : Room k G.X.A) (ho : RE G o mo) (he : RE G e me) (m : M1 G.X o "get" apos e cpos) : RE G (.Call (.Attribute o "get" apos) [e] [] cpos) (eDGet mo me) := by
  intro σ W env st Q wk re hp
  refine qe_of (pe_dget1 (by have := hr.units; omega) pe_q pe_q m) ?_
  refine ho σ W env st _ wk re (bindEE hp fun d s1 x W1 e1 w1 r1 p1 => ?_)
  unfold kDGet at p1
  by_cases hd : isDk d s1 = true
  · rw [if_pos hd] at p1
    obtain ⟨n, kvs, rfl, hs⟩ := isDk_at hd
    cases r1 with
    | cell hg =>
      rename_i q
      obtain ⟨ws, h1, h2⟩ := w1.cell n q _ hg hs
      refine ⟨q, rfl, .inl ⟨ws, .inl h1⟩, ?_⟩
      refine he σ W1 env s1 _ w1 (re.mono e1) (bindEE p1 fun y s2 v W2 e2 w2 r2 p2 => ?_)
      unfold getDk at p2
      cases hk : keyD y with
      | none => rw [hk] at p2; exact p2.elim
      | some kk =>
        rw [hk] at p2
        dsimp only at p2
        have hv := key_rep hk r2
        subst hv
        split at p2
        · rename_i kvs2 hs2
          have hg2 : W2.g[n]? = some q := by
            obtain ⟨l, e, _⟩ := e2.pre
            rw [e, List.getElem?_append_left (List.getElem?_eq_some_iff.mp hg).1]
            exact hg
          obtain ⟨ws2, g1, g2⟩ := w2.cell n q _ hg2 hs2
          refine ⟨valV ws2 kk, .k g1, ?_⟩
          rcases pk_val kk g2 with ⟨z1, z2⟩ | ⟨v, d, z1, z2, z3⟩
          · rw [z1]; rw [z2] at p2; exact p2 .non W2 (Ext.refl W2) w2 .non
          · rw [z1]; rw [z2] at p2; exact p2 v W2 (Ext.refl W2) w2 z3
        · exact p2.elim
  · rw [if_neg hd] at p1; exact p1.elim
/-! ### d.setdefault(k, z) -/
def setDk (x y z : D) : M D := fun st => match x, keyD y with
  | .cell n, some k => (match st[n]? with
    | some (.dk kvs) => if kvs.length < LIM then (match valD kvs k with
      | some d => .ok d st
      | none => .ok z (st.set n (.dk (putDk kvs k z)))) else .bad
    | _ => .bad)
  | _, _ => .bad
def kDSet2 (x y : D) (z : D) : M D := setDk x y z
def kDSet (m2 : EM) (env : En) (x y : D) : M D := fun s2 => (m2 env s2).bind (kDSet2 x y)
def kDSetd (me m2 : EM) (env : En) (x : D) : M D := fun s1 => if isDk x s1 = true then (me env s1).bind (kDSet m2 env x) else .bad
def eDSetd (mo me m2 : EM) : EM := fun env st => (mo env st).bind (kDSetd me m2 env)
theorem re_dsetd (ho : RE G o mo) (he : RE G e me) (h2 : RE G e2 m2) (m : M2 G.X o "setdefault" apos e e2 cpos) : RE G (.Call (.Attribute o "setdefault" apos) [e, e2] [] cpos) (eDSetd mo me m2) := by
  intro σ W env st Q wk re hp
  refine qe_of (pe_dsetd pe_q pe_q pe_q m) ?_
  refine ho σ W env st _ wk re (bindEE hp fun d s1 x W1 e1 w1 r1 p1 => ?_)
  unfold kDSetd at p1
  by_cases hd : isDk d s1 = true
  · rw [if_pos hd] at p1
    obtain ⟨n, kvs, rfl, hs⟩ := isDk_at hd
    cases r1 with
    | cell hg =>
      rename_i q
      obtain ⟨ws, g1, _⟩ := w1.cell n q _ hg hs
      refine ⟨q, rfl, .inl ⟨ws, .inl g1⟩, ?_⟩
      refine he σ W1 env s1 _ w1 (re.mono e1) (bindEE p1 fun y s2 v W2 e2 w2 r2 p2 => ?_)
      refine h2 σ W2 env s2 _ w2 ((re.mono e1).mono e2) (bindEE p2 fun z s3 v3 W3 e3 w3 r3 p3 => ?_)
      unfold kDSet2 setDk at p3
      cases hk : keyD y with
      | none => rw [hk] at p3; exact p3.elim
      | some kk =>
        rw [hk] at p3
        dsimp only at p3
        have hv := key_rep hk r2
        subst hv
        split at p3
        · rename_i kvs2 hs2
          have hg2 : W3.g[n]? = some q := by
            obtain ⟨l, e, _⟩ := (e2.trans e3).pre
            rw [e, List.getElem?_append_left (List.getElem?_eq_some_iff.mp hg).1]
            exact hg
          obtain ⟨ws2, g1, g2⟩ := w3.cell n q _ hg2 hs2
          by_cases hl : kvs2.length < LIM
          · rw [if_pos hl] at p3
            refine ⟨ws2, kk, g1, rfl, lim_lt (by rw [pk_len g2]; exact hl), fun v hv => ?_, fun hv => ?_⟩
            · rcases pk_val kk g2 with ⟨z1, z2⟩ | ⟨v', d, z1, z2, z3⟩
              · rw [z1] at hv; cases hv
              · rw [z1] at hv; cases hv
                rw [z2] at p3
                exact p3 _ W3 (Ext.refl W3) w3 z3
            · rcases pk_val kk g2 with ⟨z1, z2⟩ | ⟨v', d, z1, z2, z3⟩
              · rw [z2] at p3
                have hne : W3.h q ≠ none := by rw [g1]; exact fun z => by cases z
                have kk' := W3.wr_kp (o := .dK (putK ws2 kk v3)) hne (W3.gav q (List.mem_of_getElem? hg2))
                obtain ⟨x1, y1⟩ := cell_wr (o := .dK (putK ws2 kk v3)) (c := .dk (putDk kvs2 kk z)) w3 hg2 hne ⟨_, upd_same, pk_kp kk' (pk_put kk g2 r3)⟩
                exact p3 v3 _ x1 y1 (r3.mono x1)
              · rw [z1] at hv; cases hv
          · rw [if_neg hl] at p3; exact p3.elim
        · exact p3.elim
  · rw [if_neg hd] at p1; exact p1.elim
/-! ### d[k] = e -/
def putS (env : En) (d x : D) (y : D) (s : Sto) : SRes := match x, keyD y with
  | .cell n, some k => (match s[n]? with
    | some (.dk kvs) => if kvs.length < LIM then .nx env (s.set n (.dk (putDk kvs k d))) else .bad
    | _ => .bad)
  | _, _ => .bad
def kPutS1 (b : EM) (env : En) (d x : D) (s : Sto) : SRes := (b env s).go env (putS env d x)
def kPutS (o b : EM) (env : En) (d : D) (s : Sto) : SRes := (o env s).go env (kPutS1 b env d)
def sPutD (o b a : EM) : SM := fun env st => (a env st).go env (kPutS o b env)
variable {ix : Expr} {mi ma : EM}
theorem rs_putD {k : Nat} (hr : Room k G.X.A) (ho : RE G o mo) (hi : RE G ix mi) (ha : RE G e ma)
    (has : ∀ v, assign (.Subscript o ix apos) G.X.env v = (do
      let a ← holding [v] (eval o G.X.env)
      let b ← holding [v, a] (eval ix G.X.env)
      standAt apos
      holding [v, a, b] (setItem a b v)
      release [v, a, b] []) := by intro _; rfl)
    (hs : swapsWithSole [.Subscript o ix apos] e pos.line G.X.env = pure false := by rfl) (hw : swappedStores [.Subscript o ix apos] e G.X.env = pure none := by rfl)
    (h1 : (assignEach [.Subscript o ix apos] G.X.env).map (·.2) = [assign (.Subscript o ix apos) G.X.env] := by rfl) :
    RS G (.Assign [.Subscript o ix apos] e pos) (sPutD mo mi ma) := by
  intro σ W env st Dn w re hp
  refine qs_of (ps_asg pe_q (pg_sub pe_q pe_q (set_dict (by have := hr.units; omega)) has) hs hw h1) ?_
  refine ha σ W env st _ w re (bindES re hp fun d s1 v W1 e1 w1 r1 re1 p1 => ?_)
  refine ho σ W1 env s1 _ w1 re1 (bindES re1 p1 fun dx s2 vx W2 e2 w2 r2 re2 p2 => ?_)
  refine hi σ W2 env s2 _ w2 re2 (bindES re2 p2 fun dj s3 vj W3 e3 w3 r3 re3 p3 => ?_)
  have r2' := r2.mono e3
  unfold putS at p3
  split at p3
  · rename_i n kk hk
    have hv := key_rep hk r3
    subst hv
    cases r2' with
    | cell hg =>
      rename_i q
      split at p3
      · rename_i kvs hsn
        by_cases hl : kvs.length < LIM
        · rw [if_pos hl] at p3
          obtain ⟨ws, g1, g2⟩ := w3.cell n q _ hg hsn
          have hne : W3.h q ≠ none := by rw [g1]; exact fun z => by cases z
          have kp := W3.wr_kp (o := .dK (putK ws kk v)) hne (W3.gav q (List.mem_of_getElem? hg))
          obtain ⟨x1, y1⟩ := cell_wr (o := .dK (putK ws kk v)) (c := .dk (putDk kvs kk d)) w3 hg hne ⟨_, upd_same, pk_kp kp (pk_put kk g2 ((r1.mono e2).mono e3))⟩
          exact ⟨q, _, rfl, .k g1 (lim_lt (by rw [pk_len g2]; exact hl)), p3 σ _ (x1.s σ env) y1 (re3.mono x1)⟩
        · rw [if_neg hl] at p3; exact p3.elim
      · exact p3.elim
  · exact p3.elim
end
end Mi
/-! MiItems: [.. for k, v in d.items()], d a slot's dict that is the last cell and that nothing else names. -/
namespace Mi
open PySem PySem.Spec PyProof.Rows L2 ItX
/-! ### which cells a datum names: all below n -/
mutual
def cln (n : Nat) : D → Bool
  | .lst xs => clnL n xs
  | .tup xs => clnL n xs
  | .fix xs => clnL n xs
  | .ins _ fs => clnF n fs
  | .cell m => decide (m < n)
  | .non => true
  | .bl _ => true
  | .int _ => true
  | .str _ => true
  | .cls _ => true
  | .ty _ => true
def clnL (n : Nat) : List D → Bool
  | [] => true
  | d :: r => cln n d && clnL n r
def clnF (n : Nat) : List (Str × D) → Bool
  | [] => true
  | (_, d) :: r => cln n d && clnF n r
end
def clnS (n : Nat) : Slot → Bool
  | .no => true
  | .sh d => cln n d
  | .oL ds => clnL n ds
  | .oI _ fs => clnF n fs
  | .ex _ fs => clnF n fs
def clnC (n : Nat) : Cl → Bool
  | .lst ds => clnL n ds
  | .ins _ fs => clnF n fs
  | .dk kvs => kvs.all fun kv => cln n kv.2
  | .tab _ _ => false
/-- a world that shows the trees of another one -/
structure Shows (n : Nat) (W W' : Wd) : Prop where
  tree : ∀ p o, ¬ W.av p → W.h p = some o → (∀ od ws, o ≠ .frz od (.dK ws)) → ¬ W'.av p ∧ W'.h p = some o
  cell : ∀ m p, m < n → W.g[m]? = some p → W'.g[m]? = some p
theorem clnA {a b : Bool} (h : (a && b) = true) : a = true ∧ b = true := Bool.and_eq_true_iff.mp h
section
variable {K : PySem.W.Frag} {ca : Nat → Addr} {W W' : Wd} {n : Nat}
theorem Shows.rd (s : Shows n W W') {p : Addr} {u : HO} (hu : ∀ ws, u ≠ .dK ws) (na : ¬ W.av p) (h : Rd W.h p u) (h0 : ∀ od ws, u ≠ .frz od (.dK ws)) : ¬ W'.av p ∧ Rd W'.h p u := by
  rcases h with h | ⟨o, h⟩
  · obtain ⟨a, b⟩ := s.tree p u na h h0
    exact ⟨a, .inl b⟩
  · obtain ⟨a, b⟩ := s.tree p _ na h fun od ws z => by cases z; exact hu ws rfl
    exact ⟨a, .inr ⟨o, b⟩⟩
mutual
theorem Rep.shows (s : Shows n W W') : ∀ {v : V} {d : D}, Rep K ca W v d → cln n d = true → Rep K ca W' v d
  | _, _, .non, _ => .non
  | _, _, .bl b, _ => .bl b
  | _, _, .int i, _ => .int i
  | _, _, .str x, _ => .str x
  | _, _, .lst na h r, c => .lst (s.tree _ _ na h fun _ _ z => by cases z).1 (s.tree _ _ na h fun _ _ z => by cases z).2 (Reps.shows s r c)
  | _, _, .fix na h r, c => .fix (s.rd (fun _ z => by cases z) na h fun _ _ z => by cases z).1 (s.rd (fun _ z => by cases z) na h fun _ _ z => by cases z).2 (Reps.shows s r c)
  | _, _, .fixK h r, c => .fixK h (Reps.shows s r c)
  | _, _, .tup na h r, c => .tup (s.rd (fun _ z => by cases z) na h fun _ _ z => by cases z).1 (s.rd (fun _ z => by cases z) na h fun _ _ z => by cases z).2 (Reps.shows s r c)
  | _, _, .tupK h r, c => .tupK h (Reps.shows s r c)
  | _, _, .ins na h r, c => .ins (s.tree _ _ na h fun _ _ z => by cases z).1 (s.tree _ _ na h fun _ _ z => by cases z).2 (RepF.shows s r c)
  | _, _, .cell h, c => .cell (s.cell _ _ (of_decide_eq_true c) h)
  | _, _, .cls c, _ => .cls c
  | _, _, .ty x, _ => .ty x
theorem Reps.shows (s : Shows n W W') : ∀ {vs : List V} {ds : List D}, Reps K ca W vs ds → clnL n ds = true → Reps K ca W' vs ds
  | _, _, .nil, _ => .nil
  | _, _, .cons r t, c => .cons (Rep.shows s r (clnA c).1) (Reps.shows s t (clnA c).2)
theorem RepF.shows (s : Shows n W W') : ∀ {vs : List (Str × V)} {ds : Fs}, RepF K ca W vs ds → clnF n ds = true → RepF K ca W' vs ds
  | _, _, .nil, _ => .nil
  | _, _, .cons r t, c => .cons (Rep.shows s r (clnA c).1) (RepF.shows s t (clnA c).2)
end
mutual
theorem Rep.cln : ∀ {v : V} {d : D}, Rep K ca W v d → Mi.cln W.g.length d = true
  | _, _, .non => rfl
  | _, _, .bl b => rfl
  | _, _, .int i => rfl
  | _, _, .str x => rfl
  | _, _, .lst _ _ r => Reps.cln r
  | _, _, .fix _ _ r => Reps.cln r
  | _, _, .fixK _ r => Reps.cln r
  | _, _, .tup _ _ r => Reps.cln r
  | _, _, .tupK _ r => Reps.cln r
  | _, _, .ins _ _ r => RepF.cln r
  | _, _, .cell h => decide_eq_true (List.getElem?_eq_some_iff.mp h).1
  | _, _, .cls c => rfl
  | _, _, .ty x => rfl
theorem Reps.cln : ∀ {vs : List V} {ds : List D}, Reps K ca W vs ds → clnL W.g.length ds = true
  | _, _, .nil => rfl
  | _, _, .cons r t => Bool.and_eq_true_iff.mpr ⟨Rep.cln r, Reps.cln t⟩
theorem RepF.cln : ∀ {vs : List (Str × V)} {ds : Fs}, RepF K ca W vs ds → clnF W.g.length ds = true
  | _, _, .nil => rfl
  | _, _, .cons r t => Bool.and_eq_true_iff.mpr ⟨Rep.cln r, RepF.cln t⟩
end
theorem pk_shows (s : Shows n W W') {ws : List (Key × V)} {kvs : List (Key × D)} (h : PKV K ca W ws kvs) (c : (kvs.all fun kv => Mi.cln n kv.2) = true) : PKV K ca W' ws kvs := by
  induction h with
  | nil => exact .nil
  | cons r t ih =>
    rw [List.all_cons] at c
    exact .cons ⟨r.1, r.2.shows s (clnA c).1⟩ (ih (clnA c).2)
/-! ### the dict is locked: the last cell, now a thing that stands fast -/
theorem take_ne {W : Wd} (nd : W.g.Nodup) {p0 : Addr} (hg : W.g[n]? = some p0) {m : Nat} {p : Addr} (hm : (W.g.take n)[m]? = some p) : m < n ∧ W.g[m]? = some p ∧ p ≠ p0 := by
  have hl : m < n := by
    have := (List.getElem?_eq_some_iff.mp hm).1
    rw [List.length_take] at this
    omega
  rw [List.getElem?_take_of_lt hl] at hm
  refine ⟨hl, hm, fun e => ?_⟩
  subst e
  have := nd_ix nd hm hg
  omega
def Wd.lk (W : Wd) (n : Nat) (p0 : Addr) (o : HO) (nd : W.g.Nodup) (hg : W.g[n]? = some p0) : Wd where
  av := fun q => W.av q ∧ q ≠ p0
  g := W.g.take n
  h := upd W.h p0 o
  trk := fun q h => by rw [upd_ne h.2]; exact W.trk q h.1
  gav := fun q h => by
    obtain ⟨m, hm⟩ := List.getElem?_of_mem h
    obtain ⟨_, h2, h3⟩ := take_ne nd hg hm
    exact ⟨W.gav q (List.mem_of_getElem? h2), h3⟩
theorem lk_shows {p0 : Addr} {o : HO} (nd : W.g.Nodup) (hg : W.g[n]? = some p0) : Shows n W (W.lk n p0 o nd hg) where
  tree := fun p u na h _ => by
    have ne : p ≠ p0 := fun e => na (e ▸ W.gav _ (List.mem_of_getElem? hg))
    exact ⟨fun z => na z.1, (upd_ne ne).trans h⟩
  cell := fun m p hm h => by
    show (W.g.take n)[m]? = _
    rw [List.getElem?_take_of_lt hm]; exact h
theorem cell_shows (s : Shows n W W') {p : Addr} {c : Cl} (hh : W'.h p = W.h p) (h : CellOk K ca W p c) (cc : clnC n c = true) : CellOk K ca W' p c := by
  cases c with
  | lst ds => obtain ⟨xs, h1, h2⟩ := h; exact ⟨xs, hh.trans h1, h2.shows s cc⟩
  | ins c gs => obtain ⟨dx, fs, h1, h2⟩ := h; exact ⟨dx, fs, hh.trans h1, h2.shows s cc⟩
  | dk kvs => obtain ⟨ws, h1, h2⟩ := h; exact ⟨ws, hh.trans h1, pk_shows s h2 cc⟩
  | tab m q => cases cc
theorem lk_ok {st : Sto} {p0 : Addr} {o : HO} (wk : WOk K ca W st) (hg : W.g[n]? = some p0) (hc : ((st.take n).all (clnC n)) = true) : WOk K ca (W.lk n p0 o wk.nd hg) (st.take n) where
  nd := List.Nodup.sublist (List.take_sublist _ _) wk.nd
  len := by
    show (W.g.take n).length = _
    rw [List.length_take, List.length_take, wk.len]
  cell := fun m p c hp hs => by
    obtain ⟨h1, h2, h3⟩ := take_ne wk.nd hg hp
    have cc := List.all_eq_true.mp hc c (List.mem_of_getElem? hs)
    rw [List.getElem?_take_of_lt h1] at hs
    exact cell_shows (lk_shows wk.nd hg) (upd_ne h3) (wk.cell m p c h2 hs) cc
theorem repx_shows (s : Shows n W W') {fs : Fs} {d : Option Addr} (h : RepX K ca W fs d) (c : clnF n fs = true) : RepX K ca W' fs d := by
  rcases h with h | ⟨p, ws, h1, h2, h3, h4⟩
  · exact .inl h
  · obtain ⟨a, b⟩ := s.tree p _ h2 h3 fun _ _ z => by cases z
    exact .inr ⟨p, ws, h1, a, b, h4.shows s c⟩
theorem lk_env {st : Sto} {p0 : Addr} {o : HO} {xc : XC} {σ : L2.St} {env : En} (nd : W.g.Nodup) (hg : W.g[n]? = some p0) (re : RepE K ca xc W σ env) (hc : env.all (clnS n) = true) : RepE K ca xc (W.lk n p0 o nd hg) σ env := by
  have g0 := List.mem_of_getElem? hg
  have cl : ∀ (i : Nat) (s : Slot), env[i]? = some s → clnS n s = true := fun i s h => List.all_eq_true.mp hc s (List.mem_of_getElem? h)
  have ng : ∀ p, p ∉ W.g → p ∉ (W.lk n p0 o nd hg).g := fun p h z => h (List.mem_of_mem_take z)
  refine ⟨re.len, fun i d h => ?_, fun i ds h => ?_, fun i c fs h => ?_, fun i c fs h => ?_, re.sep⟩
  · obtain ⟨v, h1, h2⟩ := re.sh i d h
    exact ⟨v, h1, h2.shows (lk_shows nd hg) (cl i _ h)⟩
  · obtain ⟨p, xs, h1, h2, h3, h4, h5⟩ := re.oL i ds h
    have ne : p ≠ p0 := fun e => h3 (e ▸ g0)
    exact ⟨p, xs, h1, ⟨h2, ne⟩, ng p h3, (upd_ne ne).trans h4, h5.shows (lk_shows nd hg) (cl i _ h)⟩
  · obtain ⟨p, dx, ws, h1, h2, h3, h4, h5⟩ := re.oI i c fs h
    have ne : p ≠ p0 := fun e => h3 (e ▸ g0)
    exact ⟨p, dx, ws, h1, ⟨h2, ne⟩, ng p h3, (upd_ne ne).trans h4, h5.shows (lk_shows nd hg) (cl i _ h)⟩
  · obtain ⟨a, d, h1, h2, h3⟩ := re.ex i c fs h
    exact ⟨a, d, h1, h2, repx_shows (lk_shows nd hg) h3 (cl i _ h)⟩
/-! ### .. and given back -/
def Wd.ulk (W : Wd) (p0 : Addr) (o : HO) (hp : W.h p0 ≠ none) : Wd where
  av := fun q => W.av q ∨ q = p0
  g := W.g ++ [p0]
  h := upd W.h p0 o
  trk := fun q h => by
    by_cases e : q = p0
    · rw [e, upd_same]; exact fun z => by cases z
    · rw [upd_ne e]
      exact W.trk q (h.resolve_right e)
  gav := fun q h => by
    rcases List.mem_append.mp h with z | z
    · exact .inl (W.gav q z)
    · exact .inr (by simpa using z)
theorem ulk_shows {p0 : Addr} {o : HO} {od : Obj} {ws : List (Key × V)} (hp : W.h p0 ≠ none) (hf : W.h p0 = some (.frz od (.dK ws))) : Shows W.g.length W (W.ulk p0 o hp) where
  tree := fun p u na h ne => by
    have e : p ≠ p0 := fun e => by
      rw [e, hf] at h
      exact ne od ws (Option.some.inj h).symm
    exact ⟨fun z => z.elim na e, (upd_ne e).trans h⟩
  cell := fun m p hm h => by
    show (W.g ++ [p0])[m]? = _
    rw [List.getElem?_append_left hm]; exact h
theorem pk_cln {ws : List (Key × V)} {kvs : List (Key × D)} (h : PKV K ca W ws kvs) : (kvs.all fun kv => Mi.cln W.g.length kv.2) = true := by
  induction h with
  | nil => rfl
  | cons r t ih => rw [List.all_cons, r.2.cln, ih]; rfl
theorem cell_cln {c : Cl} {p : Addr} (h : CellOk K ca W p c) (nt : ∀ m q, c ≠ .tab m q) : clnC W.g.length c = true := by
  cases c with
  | lst ds => obtain ⟨xs, h1, h2⟩ := h; exact h2.cln
  | ins c gs => obtain ⟨dx, fs, h1, h2⟩ := h; exact h2.cln
  | dk kvs =>
    obtain ⟨ws, h1, h2⟩ := h
    exact pk_cln h2
  | tab m q => exact absurd rfl (nt m q)
def noTab : Cl → Bool
  | .tab _ _ => false
  | _ => true
theorem ulk_ok {st : Sto} {p0 : Addr} {od : Obj} {ws : List (Key × V)} {kvs : List (Key × D)} (hp : W.h p0 ≠ none) (hf : W.h p0 = some (.frz od (.dK ws))) (nav : ¬ W.av p0) (wk : WOk K ca W st) (nt : st.all noTab = true)
    (hk : PKV K ca W ws kvs) : WOk K ca (W.ulk p0 (.dK ws) hp) (st ++ [.dk kvs]) where
  nd := by
    show (W.g ++ [p0]).Nodup
    rw [List.nodup_append]
    exact ⟨wk.nd, by simp, fun a ha b hb => by
      have e : b = p0 := by simpa using hb
      subst e
      exact fun z => nav (W.gav _ (z ▸ ha))⟩
  len := by
    show (W.g ++ [p0]).length = _
    rw [List.length_append, List.length_append, wk.len]; rfl
  cell := fun m p c hm hs => by
    have hm : (W.g ++ [p0])[m]? = some p := hm
    rcases Nat.lt_or_ge m W.g.length with hl | hl
    · rw [List.getElem?_append_left hl] at hm
      rw [List.getElem?_append_left (by rw [← wk.len]; exact hl)] at hs
      have h0 := wk.cell m p c hm hs
      have ne : p ≠ p0 := fun e => nav (W.gav _ (e ▸ List.mem_of_getElem? hm))
      have cc : clnC W.g.length c = true := cell_cln h0 fun a b e => by
        have := List.all_eq_true.mp nt c (List.mem_of_getElem? hs)
        rw [e] at this
        cases this
      exact cell_shows (ulk_shows hp hf) (upd_ne ne) h0 cc
    · have e1 : m = W.g.length := by
        have := (List.getElem?_eq_some_iff.mp hm).1
        rw [List.length_append, List.length_singleton] at this
        omega
      subst e1
      rw [List.getElem?_append_right (Nat.le_refl _), Nat.sub_self] at hm
      rw [wk.len, List.getElem?_append_right (Nat.le_refl _), Nat.sub_self] at hs
      cases hm
      cases hs
      exact ⟨ws, upd_same, pk_shows (ulk_shows hp hf) hk (pk_cln hk)⟩
/-- from before the lock to behind it -/
theorem lk_ext {p0 : Addr} {o : HO} {nd : W.g.Nodup} {hg : W.g[n]? = some p0} {W1 : Wd} {u : HO} (hn : n + 1 = W.g.length) (x : Ext (W.lk n p0 o nd hg) W1) (hl : W1.g.length = n) (hp : W1.h p0 ≠ none) : Ext W (W1.ulk p0 u hp) := by
  have av0 := W.gav _ (List.mem_of_getElem? hg)
  have g1 : W1.g = W.g.take n := by
    obtain ⟨l, e, _⟩ := x.pre
    have e : W1.g = W.g.take n ++ l := e
    have hle : (W.g.take n).length = n := by rw [List.length_take]; omega
    have : l = [] := by
      rw [e, List.length_append, hle] at hl
      exact List.eq_nil_of_length_eq_zero (by omega)
    rw [e, this, List.append_nil]
  have gg : W1.g ++ [p0] = W.g := by
    rw [g1]
    have := List.take_append_drop n W.g
    rw [drop_at hg, List.drop_eq_nil_of_le (by omega)] at this
    exact this
  refine ⟨fun p v na h => ?_, fun p h ng => ?_, fun p h => ?_, fun p h => ?_, fun p h => ?_, [], ?_, fun p h => by simp at h⟩
  · have ne : p ≠ p0 := fun e => na (e ▸ av0)
    exact (upd_ne ne).trans (x.keep p v (fun z => na z.1) ((upd_ne ne).trans h))
  · have ne : p ≠ p0 := fun e => ng (e ▸ List.mem_of_getElem? hg)
    exact (upd_ne ne).trans ((x.own p ⟨h, ne⟩ fun z => ng (List.mem_of_mem_take z)).trans (upd_ne ne))
  · by_cases e : p = p0
    · exact .inr e
    · exact .inl (x.av p ⟨h, e⟩)
  · rcases h with h | h
    · rcases x.new p h with z | z
      · exact .inl z.1
      · by_cases e : p = p0
        · exact .inl (e ▸ av0)
        · exact .inr ((upd_ne e).symm.trans z)
    · exact .inl (h ▸ av0)
  · have h : upd W1.h p0 u p = none := h
    by_cases e : p = p0
    · rw [e, upd_same] at h; cases h
    · rw [upd_ne e] at h
      exact (upd_ne e).symm.trans (x.stay p h)
  · show W1.g ++ [p0] = W.g ++ []
    rw [gg, List.append_nil]
end
/-! ### the items -/
def keyDat : Key → D
  | .inl i => .int i
  | .inr s => .str s
def itemD (kv : Key × D) : D := .tup [keyDat kv.1, kv.2]
section
variable {K : PySem.W.Frag} {ca : Nat → Addr} {W : Wd}
theorem rep_key (k : Key) : Rep K ca W (kV k) (keyDat k) := by
  cases k with
  | inl i => exact .int i
  | inr s => exact .str s
theorem pk_get {ws : List (Key × V)} {kvs : List (Key × D)} (h : PKV K ca W ws kvs) : ∀ {i : Nat} {k : Key} {v : V}, ws[i]? = some (k, v) → ∃ d, kvs[i]? = some (k, d) ∧ Rep K ca W v d := by
  induction h with
  | nil => intro i k v e; simp at e
  | @cons a b as bs r t ih =>
    intro i k v e
    cases i with
    | zero =>
      simp at e
      subst e
      exact ⟨b.2, by rw [show b = (k, b.2) from Prod.ext r.1.symm rfl]; rfl, r.2⟩
    | succ i =>
      obtain ⟨d, h1, h2⟩ := ih (i := i) (by simpa using e)
      exact ⟨d, by simpa using h1, h2⟩
theorem jok_items {p0 : Addr} {od : Obj} {ws : List (Key × V)} {kvs : List (Key × D)} (nav : ¬ W.av p0) (hf : W.h p0 = some (.frz od (.dK ws))) (h : PKV K ca W ws kvs) : JOk K ca W (Iti p0 od ws) (kvs.map itemD) := by
  intro W' st' k w'
  have hf' := k.keep p0 _ nav hf
  have hl := pk_len h
  refine ⟨fun i d hi => ?_, hf', by rw [List.length_map, hl]; exact Nat.le_refl _⟩
  have hil : i < ws.length := by
    have := (List.getElem?_eq_some_iff.mp hi).1
    rw [List.length_map, ← hl] at this
    exact this
  refine ⟨⟨hf', hil⟩, fun x H' y => ?_⟩
  obtain ⟨T, kk, v, h1, rfl, hT, rfl⟩ := y
  obtain ⟨d0, h2, h3⟩ := pk_get h h1
  rw [List.getElem?_map, h2] at hi
  cases hi
  exact ⟨W'.lay T (.tup [kV kk, v]) hT, rfl, W'.lay_ext hT, w'.lay hT, .tup (W'.lay_nav hT) (.inl upd_same) (.cons (rep_key kk) (.cons ((h3.kp k).mono (W'.lay_ext hT)) .nil))⟩
end
/-- what may be walked so -/
def itemsOf (env : En) (i : Nat) (st : Sto) : Option (Nat × List (Key × D)) := match env[i]? with
  | some (.sh (.cell n)) => (match st[n]? with
    | some (.dk kvs) => if (n + 1 = st.length ∧ (env.set i .no).all (clnS n) = true) ∧ ((st.take n).all (clnC n) = true ∧ (kvs.all fun kv => cln n kv.2) = true) then some (n, kvs) else none
    | _ => none)
  | _ => none
def kItems (n : Nat) (kvs : List (Key × D)) (r : Res (List D)) : Res (List D) := match r with
  | .ok ds s => if s.length = n ∧ s.all noTab = true then .ok ds (s ++ [.dk kvs]) else .bad
  | _ => .bad
def lCompItems (i : Nat) (tg : TgM) (tst : TM) (elt : EM) (vs : List Nat) : AM := fun env st => match itemsOf env i st with
  | some (n, kvs) => kItems n kvs (compLoop tg tst elt (wipeE (env.set i .no) vs) (kvs.map itemD) [] (st.take n))
  | none => .bad
section
variable {G : Gx} {elt : Expr} {ifs : List Expr} {scope : Scope} {js : List Nat} {mt : TgM} {tst : TM} {me : EM}
theorem itemsOf_some {env : En} {i : Nat} {st : Sto} {n : Nat} {kvs : List (Key × D)} (h : itemsOf env i st = some (n, kvs)) :
    env[i]? = some (.sh (.cell n)) ∧ st[n]? = some (.dk kvs) ∧ n + 1 = st.length ∧ (env.set i .no).all (clnS n) = true ∧ (st.take n).all (clnC n) = true ∧ (kvs.all fun kv => cln n kv.2) = true := by
  unfold itemsOf at h
  split at h
  · rename_i m he
    split at h
    · rename_i kv hs
      split at h
      · rename_i hc
        cases h
        exact ⟨he, hs, hc.1.1, hc.1.2, hc.2.1, hc.2.2⟩
      · cases h
    · cases h
  · cases h
theorem rl_compItems {i : Nat} {x : Str} {elts : List Expr} {kk : Nat} {tpos px apos cpos pos : Pos} {own : List (Str × Nat)} (hc : G.X.calm = true) (hN : G.X.N.Nodup) (ok : BlkOk G.X.N G.X.env.scope scope own)
    (hx : PE G.X (.Name x px) (tVar i))
    (hg : ∀ s H0 C cl fp, RG (G.blk s H0 scope C cl fp) (.Tuple elts kk tpos) js mt) (ht : ∀ s H0 C cl fp, RTs (G.blk s H0 scope C cl fp) ifs tst) (he : ∀ s H0 C cl fp, RE (G.blk s H0 scope C cl fp) elt me) (hj : ∀ j ∈ js, j ∈ own.map (·.2))
    (hbase : attributeBase (.Name x px) "items" G.X.env (eval (.Name x px) G.X.env) = eval (.Name x px) G.X.env := by rfl) (hline : (apos.endLine == cpos.line) = true := by rfl)
    (hs : ∀ z, foldedSetIterable (.Call (.Attribute (.Name x px) "items" apos) [] [] cpos) G.X.env z = pure z := by exact fold_ns rfl) :
    RL G (.ListComp elt [⟨.Tuple elts kk tpos, .Call (.Attribute (.Name x px) "items" apos) [] [] cpos, ifs, 0⟩] scope pos) (lCompItems i mt tst me (own.map (·.2))) := by
  intro σ W env st Q wk re hp
  unfold lCompItems at hp
  cases hio : itemsOf env i st with
  | none => rw [hio] at hp; exact hp.elim
  | some nk =>
  obtain ⟨n, kvs⟩ := nk
  rw [hio] at hp
  dsimp only at hp
  obtain ⟨hei, hst, hn, hce, hcs, hck⟩ := itemsOf_some hio
  obtain ⟨v, hσ, rv⟩ := re.sh i _ hei
  cases rv with
  | cell hgn =>
  rename_i p0
  obtain ⟨ws, hw, hpk⟩ := wk.cell n p0 _ hgn hst
  refine qe_of (pe_lock (pe_lc hc hN (pi_items hx hbase hline) ok (fun s H0 C cl fp => ⟨fun pins s1 σ H v u Q I r h => h s H0 C cl fp pins s1 u I r⟩) (fun s H0 C cl fp => ⟨fun pins s1 σ H Q I h => (pts_q (G := G.blk s H0 scope C cl fp)).run pins s1 σ H Q I (h s H0 C cl fp)⟩) (fun s H0 C cl fp => ⟨fun pins s1 σ H Q I h => h s H0 C cl fp pins s1 I⟩) hs
    (g := gB G scope (.Tuple elts kk tpos)) (tt := tB1 G scope ifs) (te := eB1 G scope elt))) ?_
  refine ⟨p0, .dK ws, hw, trivial, fun od => ?_⟩
  refine ⟨.ref p0, hσ, p0, od, ws, rfl, upd_same, ?_⟩
  have sh := lk_shows (o := .frz od (.dK ws)) wk.nd hgn
  have wl := lk_ok (o := .frz od (.dK ws)) wk hgn hcs
  have nav0 : ¬ (W.lk n p0 (.frz od (.dK ws)) wk.nd hgn).av p0 := fun z => z.2 rfl
  have hf0 : (W.lk n p0 (.frz od (.dK ws)) wk.nd hgn).h p0 = some (.frz od (.dK ws)) := upd_same
  have pk0 := pk_shows sh hpk hck
  have eσ : σ.set i (some (.ref p0)) = σ := by
    apply List.ext_getElem?
    intro k
    by_cases e : i = k
    · subst e
      rw [List.getElem?_set_self (List.getElem?_eq_some_iff.mp hσ).1, hσ]
    · rw [List.getElem?_set_ne e]
  have re0 : RepE G.X.K G.ca G.xc W σ (env.set i .no) := by
    have := re.wipe1 (i := i) (x := some (.ref p0))
    rw [eσ] at this
    exact this
  have rel := lk_env (st := st) (o := .frz od (.dK ws)) wk.nd hgn re0 hce
  refine comp_core (G := G) (mt := mt) (tst := tst) (me := me) (Q := fun v H' => H' p0 = some (.frz od (.dK ws)) ∧ Q v (upd H' p0 (.dK ws))) (g := gB G scope (.Tuple elts kk tpos)) (tt := tB1 G scope ifs) (te := eB1 G scope elt) (W1 := W.lk n p0 (.frz od (.dK ws)) wk.nd hgn) (σ := σ) (env := env.set i .no) (s1 := st.take n) (ds := kvs.map itemD) (J := Iti p0 od ws) hj
    (fun σ W env v d Q re r p s H0 C cl fp => hg s H0 C cl fp σ W env v d Q re r p) (fun σ W env st Q w re p ex s H0 C cl fp => ht s H0 C cl fp σ W env st Q w re ?_) (fun σ W env st Q w re p ex s H0 C cl fp => he s H0 C cl fp σ W env st Q w re ?_) wl rel (jok_items nav0 hf0 pk0) ?_
  · obtain ⟨k, s1, hk⟩ := ex
    rw [hk]
    exact p k s1 hk
  · obtain ⟨k, s1, hk⟩ := ex
    rw [hk]
    exact p k s1 hk
  · unfold kItems at hp
    cases hr : compLoop mt tst me (wipeE (env.set i .no) (own.map (·.2))) (kvs.map itemD) [] (st.take n) with
    | bad => rw [hr] at hp; exact hp.elim
    | exc c fs s => rw [hr] at hp; exact hp.elim
    | ok ds s =>
      rw [hr] at hp
      dsimp only at hp
      split at hp
      case isFalse => exact hp.elim
      rename_i hsn
      obtain ⟨hlen, hnt⟩ := hsn
      intro p xs W1 e1 hn1 hv ng hh w1 r1
      have hf1 := e1.keep p0 _ nav0 hf0
      have hp1 : W1.h p0 ≠ none := by rw [hf1]; exact fun z => by cases z
      have nav1 : ¬ W1.av p0 := e1.kp.nav nav0 hf0
      have gl : W1.g.length = n := by rw [w1.len]; exact hlen
      have x := lk_ext (u := .dK ws) (by rw [wk.len]; exact hn) e1 gl hp1
      have w2 := ulk_ok hp1 hf1 nav1 w1 hnt (pk_kp e1.kp pk0)
      have ne : p ≠ p0 := fun e => by rw [e, hf0] at hn1; cases hn1
      refine ⟨hf1, hp p xs (W1.ulk p0 (.dK ws) hp1) x ((upd_ne ne).symm.trans hn1) (.inl hv) (fun z => ?_) ((upd_ne ne).trans hh) w2 (r1.shows (ulk_shows hp1 hf1) r1.cln)⟩
      rcases List.mem_append.mp z with z | z
      · exact ng z
      · exact ne (by simpa using z)
end
end Mi
/-! MiHead: the head by one kernel run (Head0 .. Head2) for the Mi layer: addresses as functions of the written part, facts as booleans. -/
namespace Mi
open PySem PySem.Spec PyProof.Rows L2 ClX
/-! ### defs as data -/
structure DefM where
  at_ : PySem.W.Frag → Addr
  nm : Str
  ql : Str
  st : Stmt
  dv : PySem.W.Frag → List V
def fdAt (K : PySem.W.Frag) (a : Addr) : FuncData := match K.lookup a with
  | some ⟨_, _, .func g, _⟩ => g
  | _ => default
def seenM (K : PySem.W.Frag) (a : Addr) : He.FnW := match K.lookup a with
  | some ⟨_, _, .func g, _⟩ => some (g.name, g.qualname, g.params, g.body, g.scope, g.globals, g.closure, g.builtins)
  | _ => none
def DefM.val (d : DefM) : He.FnW := some (d.nm, d.ql, defArgs d.st, .stmts (defBody d.st), defScope d.st, mainGlobals, [], builtinsNs)
def DefM.okB (K : PySem.W.Frag) (d : DefM) : Bool := PySem.W.keepIn K (.ref (d.at_ K)) && (match K.lookup (d.at_ K) with
  | some ⟨_, _, .func g, _⟩ => PySem.W.codeIn K g.code d.ql && He.dflB K g.defaults (d.dv K)
  | _ => false)
theorem fdAt_of {K : PySem.W.Frag} {a : Addr} {oc : Value} {od : Option Addr} {g : FuncData} {osl : Array (Option Value)} (h : K.lookup a = some ⟨oc, od, .func g, osl⟩) : fdAt K a = g := by unfold fdAt; rw [h]
theorem DefM.fd {K : PySem.W.Frag} {d : DefM} (e : seenM K (d.at_ K) = d.val) (c : d.okB K = true) : FD K d.nm d.ql d.st (d.dv K) (d.at_ K) (fdAt K (d.at_ K)) := by
  obtain ⟨kp, c2⟩ := Bool.and_eq_true_iff.mp c
  unfold seenM at e
  cases q : K.lookup (d.at_ K) with
  | none => rw [q] at c2; cases c2
  | some o =>
    obtain ⟨oc, od, dt, osl⟩ := o
    rw [q] at c2 e
    cases dt with
    | func g =>
      rw [fdAt_of q]
      obtain ⟨n1, n2, n3, n4, n5, n6, n7, n8, n9, n10, n11, n12, n13, n14, n15⟩ := g
      have e2 : (some (n1, n2, n3, n4, n5, n6, n7, n15) : He.FnW) = some (d.nm, d.ql, defArgs d.st, .stmts (defBody d.st), defScope d.st, mainGlobals, [], builtinsNs) := e
      simp only [Option.some.injEq, Prod.mk.injEq] at e2
      obtain ⟨h1, h2, h3, h4, h5, h6, h7, h8⟩ := e2
      subst h1 h2 h3 h4 h5 h6 h7 h8
      obtain ⟨k1, k2⟩ := Bool.and_eq_true_iff.mp (show (PySem.W.codeIn K n13 d.ql && He.dflB K n8 (d.dv K)) = true from c2)
      exact ⟨⟨oc, od, n8, n9, n10, n11, n12, n13, n14, osl, rfl, q, k1, He.dflB_ok k2, .inl rfl⟩, kp⟩
    | _ => cases c2
/-! ### what the head says -/
abbrev AlM : Type := Bool × List He.FnW
def obsM (chk : PySem.W.Frag → List Bool) (fn : List DefM) (K : PySem.W.Frag) : AlM := ((chk K).all id && fn.all fun d => d.okB K, fn.map fun d => seenM K (d.at_ K))
def valM (fn : List DefM) : AlM := (true, fn.map DefM.val)
def SaysM (chk : PySem.W.Frag → List Bool) (fn : List DefM) (K : PySem.W.Frag) : Prop := obsM chk fn K = valM fn
def hookM (as : List Addr) (chk : PySem.W.Frag → List Bool) (fn : List DefM) : PySem.W.Hook where
  α := AlM
  obs := fun s => obsM chk fn (He.frG s.heap.get? as)
  val := fun _ => valM fn
  says := fun _ h => ∃ K : PySem.W.Frag, K.In h ∧ SaysM chk fn K
  of := fun _ _ e => ⟨_, He.frG_in, e⟩
  keeps := fun _ _ _ z k => ⟨z.choose, PySem.W.Frag.In.keeps z.choose_spec.1 k, z.choose_spec.2⟩
theorem obsM_eq {as : List Addr} {chk : PySem.W.Frag → List Bool} {fn : List DefM} {g : Addr → Option Obj} {s : Shared} (h : ∀ a, g a = s.heap.get? a) : obsM chk fn (He.frG g as) = (hookM as chk fn).obs s := by
  obtain rfl : g = s.heap.get? := funext h
  rfl
section
variable {chk : PySem.W.Frag → List Bool} {fn : List DefM} {K : PySem.W.Frag}
theorem SaysM.fact (c : SaysM chk fn K) (i : Nat) {b : Bool} (h : (chk K)[i]? = some b) : b = true := by
  have c1 := (Bool.and_eq_true_iff.mp (show ((chk K).all id && fn.all fun d => d.okB K) = true from congrArg (fun z : AlM => z.1) c)).1
  exact List.all_eq_true.mp c1 b (List.mem_of_getElem? h)
theorem SaysM.fd (c : SaysM chk fn K) (i : Nat) {d : DefM} (h : fn[i]? = some d) : FD K d.nm d.ql d.st (d.dv K) (d.at_ K) (fdAt K (d.at_ K)) := by
  have c2 := (Bool.and_eq_true_iff.mp (show ((chk K).all id && fn.all fun d => d.okB K) = true from congrArg (fun z : AlM => z.1) c)).2
  have e : fn.map (fun d => seenM K (d.at_ K)) = fn.map DefM.val := congrArg (fun z : AlM => z.2) c
  have e2 : (fn.map fun d => seenM K (d.at_ K))[i]? = (fn.map DefM.val)[i]? := by rw [e]
  rw [List.getElem?_map, List.getElem?_map, h] at e2
  exact DefM.fd (Option.some.inj e2) (List.all_eq_true.mp c2 d (List.mem_of_getElem? h))
end
/-- the run's equation in two parts -/
theorem runM {r : PySem.W.OpenRow} {q : Program} {H : PySem.W.Hook} {ob : PySem.W.SharedT → H.α} {M : Nat} {loose : List Str} {w : World}
    (h1 : ∀ os : OsState, (HandSHeadRun.endF (HandSHeadRun.stepQ (HandSHeadRun.denQ HandSHeadRun.tabQ) r.prog w) M r.prog w os).map (fun s => (HandSHeadRun.looksF r.prog (PySem.W.boot_heap w.params) s.abs, HandSHeadRun.seenQ q loose (importedModules r.prog.main.body) (fun s => PySem.W.xlAt q [] s && PySem.W.recOk r.toRowW.records s) s.abs)) = some (true, PySem.W.openGood q loose))
    (h2 : ∀ os : OsState, (HandSHeadRun.endF (HandSHeadRun.stepQ (HandSHeadRun.denQ HandSHeadRun.tabQ) r.prog w) M r.prog w os).map ob = some (H.val w)) : HandSHeadRun.RunEq r q H ob M loose w := by
  intro os
  have a := h1 os
  have b := h2 os
  cases e : HandSHeadRun.endF (HandSHeadRun.stepQ (HandSHeadRun.denQ HandSHeadRun.tabQ) r.prog w) M r.prog w os with
  | none => rw [e] at b; cases b
  | some s =>
    rw [e] at a b
    obtain ⟨a1, a2⟩ := Prod.mk.inj (Option.some.inj a)
    have b1 := Option.some.inj b
    exact congrArg some (Prod.ext a1 (Prod.ext a2 b1))
/-! ### addresses -/
/-- all addresses below n, the last first -/
def downFrom : Nat → List Addr
  | 0 => []
  | n + 1 => n :: downFrom n
/-- the i-th default of the def at f, where it is an object -/
def dflA (K : PySem.W.Frag) (f : Addr) (i : Nat) : Addr := match (fdAt K f).defaults with
  | .ref T => (match K.lookup T with
    | some ⟨_, _, .seq its _, _⟩ => (match its.toList[i]? with
      | some (.ref a) => a
      | _ => 0)
    | _ => 0)
  | _ => 0
def fnA (K : PySem.W.Frag) (C : Addr) (m : Str) : Addr := match PySem.W.findIn K (.ref C) m with
  | some (some (.ref a)) => a
  | _ => 0
def cmP (K : PySem.W.Frag) (C : Addr) (m : Str) : Addr := match PySem.W.findCls K (.ref C) (.type "type") m with
  | some (.get _ (.ref p) _ _) => p
  | _ => 0
def recHd (K : PySem.W.Frag) (p : Addr) (T : String) : Addr := match PySem.W.recIn K p T with
  | some (.ref g :: _) => g
  | _ => 0
/-! ### facts that tell of a thing -/
section
variable {K : PySem.W.Frag}
def tupB (K : PySem.W.Frag) (a : Addr) (vs : List V) : Bool := match K.lookup a with
  | some ⟨.type c, _, .seq its _, _⟩ => decide (c = "tuple") && (decide (its.size ≤ sizeLine) && He.relAll vs its.toList)
  | _ => false
theorem tupB_ok {a : Addr} {vs : List V} (h : tupB K a vs = true) : WrT K a vs := by
  unfold tupB at h
  split at h
  · rename_i c _ its n _ q
    obtain ⟨h1, h2⟩ := Bool.and_eq_true_iff.mp h
    obtain ⟨h3, h4⟩ := Bool.and_eq_true_iff.mp h2
    exact .inr ⟨_, its, n, q, congrArg Value.type (of_decide_eq_true h1), rfl, of_decide_eq_true h3, He.relAll_ok h4⟩
  · cases h
def cvB (K : PySem.W.Frag) (C : Addr) (f : Str) (v : V) : Bool := match PySem.W.findCls K (.ref C) (.type "type") f with
  | some (.val u) => He.relB v u
  | _ => false
theorem cvB_ok {C : Addr} {f : Str} {v : V} (h : cvB K C f v = true) : ∃ u, CVal K C (.type "type") f v u := by
  unfold cvB at h
  split at h
  · rename_i u q; exact ⟨u, q, He.relB_ok h⟩
  · cases h
def conB (K : PySem.W.Frag) (C : Addr) (f : Str) (v : V) : Bool := match PySem.W.findIn K (.ref C) f with
  | some (some u) => He.relB v u && (decide (PySem.W.specialIn K u "__get__" = some none) && !PySem.W.copiedNames.contains f)
  | _ => false
theorem conB_ok {C : Addr} {f : Str} {v : V} (h : conB K C f v = true) : ∃ u, Con K C f v u := by
  unfold conB at h
  split at h
  · rename_i u q
    obtain ⟨h1, h2⟩ := Bool.and_eq_true_iff.mp h
    obtain ⟨h3, h4⟩ := Bool.and_eq_true_iff.mp h2
    exact ⟨u, q, He.relB_ok h1, of_decide_eq_true h3, by simpa using h4⟩
  · cases h
def gcB (K : PySem.W.Frag) (x : Str) (v : V) : Bool := match PySem.W.nsIn K mainGlobals x with
  | some (some u) => He.relB v u
  | _ => false
theorem gcB_ok {h : Heap} {mg : Str → Option Value} (X : K.In h) (G : h.Ns mainGlobals mg) {x : Str} {v : V} (e : gcB K x v = true) : ∃ u, mg x = some u ∧ RelV v u := by
  unfold gcB at e
  split at e
  · rename_i u q; exact ⟨u, PySem.W.mg_of X G q, He.relB_ok e⟩
  · cases e
def recB (K : PySem.W.Frag) (p : Addr) (T : String) : Bool := match PySem.W.recIn K p T with
  | some (.ref _ :: _) => true
  | _ => false
theorem recB_ok {p : Addr} {T : String} (h : recB K p T = true) : ∃ rest, PySem.W.recIn K p T = some (.ref (recHd K p T) :: rest) := by
  unfold recB at h
  unfold recHd
  split at h
  · rename_i g r q; rw [q]; exact ⟨r, rfl⟩
  · cases h
def cmB (K : PySem.W.Frag) (C : Addr) (m : Str) : Bool := match PySem.W.findCls K (.ref C) (.type "type") m with
  | some (.get (.builtin b) (.ref _) .none (.ref D)) => decide (b = "classmethod.__get__") && decide (D = C)
  | _ => false
theorem cmB_ok {C : Addr} {m : Str} (h : cmB K C m = true) : PySem.W.findCls K (.ref C) (.type "type") m = some (.get (.builtin "classmethod.__get__") (.ref (cmP K C m)) .none (.ref C)) := by
  unfold cmB at h
  unfold cmP
  split at h
  · rename_i b p D q
    obtain ⟨h1, h2⟩ := Bool.and_eq_true_iff.mp h
    rw [q, of_decide_eq_true h1, of_decide_eq_true h2]
  · cases h
def oxB (K : PySem.W.Frag) (C : Addr) : Bool := match K.lookup C with
  | some ⟨.type t, _, .cls cd, sl⟩ => decide (t = "type") && (match cd.mro, sl.toList with
    | .ref D :: bm, [_, _, _, _, some (.builtin n), _] => decide (D = C) && (decide (n = "ValueError.__new__") && (!cd.hasDel && (cd.hasDict && PySem.HandSPX.refsVE bm)))
    | _, _ => false)
  | _ => false
theorem oxB_ok {C : Addr} (h : oxB K C = true) : ∃ nm q N bs bm sn sub ab col dd k0 k1 k2 k3 k5, K.lookup C = some (excClassObj nm q C N bs bm true sn sub ab col dd k0 k1 k2 k3 k5 "ValueError.__new__") ∧ PySem.HandSPX.refsVE bm = true := by
  unfold oxB at h
  cases ho : K.lookup C with
  | none => rw [ho] at h; cases h
  | some o =>
    obtain ⟨oc, dd, dt, sl⟩ := o
    rw [ho] at h
    cases oc with
    | type t =>
      cases dt with
      | cls cd =>
        obtain ⟨x1, x2, x3, x4, x5, x6, x7, x8, x9, x10, x11⟩ := cd
        obtain ⟨l⟩ := sl
        obtain ⟨ht, h2⟩ := Bool.and_eq_true_iff.mp h
        obtain rfl := of_decide_eq_true ht
        dsimp only at h2
        split at h2
        · rename_i D bm k0 k1 k2 k3 n k5
          obtain ⟨a1, h3⟩ := Bool.and_eq_true_iff.mp h2
          obtain ⟨a2, h4⟩ := Bool.and_eq_true_iff.mp h3
          obtain ⟨a3, h5⟩ := Bool.and_eq_true_iff.mp h4
          obtain ⟨a4, a5⟩ := Bool.and_eq_true_iff.mp h5
          obtain rfl := of_decide_eq_true a1
          obtain rfl := of_decide_eq_true a2
          have b3 : x11 = false := by simpa using a3
          have b4 : x6 = true := a4
          subst b3 b4
          exact ⟨_, _, _, _, bm, _, _, _, _, _, _, _, _, _, _, rfl, a5⟩
        · cases h2
      | _ => cases h
    | _ => cases dt <;> cases h
end
/-! ### the end -/
theorem law_walkE {l : PySem.W.OpenLaw} {q : Program} {loose : List Str} {XP : (Str → Option Value) → Heap → Prop} {d : DefRec} {as : List Addr} {chk : PySem.W.Frag → List Bool} {fn : List DefM} {k : Nat} {x : Str} {m : List D → M D}
    (hn : l.most = some 63) (hdf : d.params.defaults = []) (hr : Room k callerA) (hm : ∀ ns : List Int, ns.length ≤ 63 → ∃ st, m [.fix (ns.map D.int)] [] = .ok (.bl true) st)
    (F : ∀ (w : World) (K : PySem.W.Frag) (mg : Str → Option Value) (fa : Addr) (h : Heap), K.In h → SaysM chk fn K → h.Ns mainGlobals mg → mg d.name = some (.ref fa) →
      ∃ fd : FuncData, (∀ (s : Shared) (u : Value), BindsTo s fd ⟨[u], []⟩ [(x, u)]) ∧ ∀ base : Heap, K.In base → base.Ns mainGlobals mg → FnOk l.prog w K mg base (L2.CX l.prog w) k fa fd [x] (spLaw m K)) :
    PySem.W.WalkO q loose XP (hookM as chk fn).says l.row.toRowW d [] (fun f vs => PySem.call f vs) := by
  refine Att.attach_call hn hdf fun w s₀ s₁ mg mb fa o pm cd doc a vs ns G Y _ _ _ hmg hobj hints hlen hg => ?_
  obtain ⟨K, KX, c⟩ := Y
  obtain ⟨fd, hb, hF⟩ := F w K mg fa _ KX c G.T.g hmg
  refine law_call KX G.T.g G.T.b G.T.builtins G.T.nolimit hg hobj hints (Nat.le_trans hlen (by decide)) hr hF hb (fun H _ hS => law_sp (hm ns hlen) hS) fun H e s' z => ?_
  obtain ⟨_, _, _, _, _, _, _, _, _, _, _, _, z⟩ := z
  exact z
end Mi
/-! MiKw: keyword-only parameters: o.m(e, .., k = v). -/
namespace Mi
open PySem PySem.Spec PyProof.Rows L2 ClX
/-! ### facts -/
/-- a def with keyword-only parameters and their defaults -/
abbrev FDk (K : PySem.W.Frag) (x qual : Str) (st : Stmt) (kws : List (Str × V)) (f : Addr) (fd : FuncData) : Prop := FunD K x qual (defArgs st) (defBody st) (defScope st) [] kws f fd
def kwB (K : PySem.W.Frag) (f : Addr) (kws : List (Str × V)) : Bool := He.kwdB K (fdAt K f).kwdefaults kws
theorem fdk_of {K : PySem.W.Frag} {x qual : Str} {st : Stmt} {kws : List (Str × V)} {f : Addr} (F : FD K x qual st [] f (fdAt K f)) (h : kwB K f kws = true) : FDk K x qual st kws f (fdAt K f) := by
  obtain ⟨⟨oc, od, dV, kV, doc, pm, an, cdv, ct, osl, e, l, c, d, _⟩, kp⟩ := F
  refine ⟨⟨oc, od, dV, kV, doc, pm, an, cdv, ct, osl, e, l, c, d, He.kwdB_ok ?_⟩, kp⟩
  unfold kwB at h
  rw [e] at h
  exact h
theorem bdk {K : PySem.W.Frag} {x qual : Str} {st : Stmt} {kws : List (Str × V)} {f : Addr} {fd : FuncData} {ps : List Str} (F : FDk K x qual st kws f fd) (n : Nat) (hk : kws ≠ []) (hn : n + kws.length = ps.length)
    (h : ∀ (D : Addr) (doc pm : Value) (an : Option Addr) (cdv ct : Value) (us mv : List Value), us.length = n → mv.length = kws.length → KwChain D ((kws.map (·.1)).zip mv) (bindArgs (PySem.W.fnOf x qual (defArgs st) (defBody st) (defScope st) .none (.ref D) doc pm an cdv ct) ⟨us, []⟩) (ps.zip (us ++ mv))) :
    BD K fd ps (kws.map (·.2)) := by
  obtain ⟨oc, od, dV, kV, doc, pm, an, cdv, ct, osl, rfl, lk, hcd, hD, hK⟩ := F.ex
  rcases hD with ⟨_, rfl⟩ | ⟨e, _⟩
  · rcases hK with e | ⟨D, rfl, hq⟩
    · exact absurd e hk
    · obtain ⟨mv, hl, rk, hks⟩ := kwd_vals (ms := kws) fun q hm => hq q hm
      refine ⟨mv, rk, fun s us X l => ?_⟩
      have hun : us.length = n := by
        rw [List.length_append, hl] at l
        omega
      exact BindsTo.of_looks fun M => KwChain.looks X hks (h D doc pm an cdv ct us mv hun hl)
  · exact absurd rfl e
/-! ### calls with keywords -/
def QCK (G : Gx) (f : Value) (ks : List Str) (σ : L2.St) (xs zs : List V) (H : Hp) (Q : VK) : Prop := ∀ pins s us ws, Inv G.X pins σ H s → Vals xs us → Vals zs ws → wpAny (model G.X.prog G.X.w) G.X.A (call f us (ks.zip ws)) (EP G.X pins σ Q) G.X.xe s
def CallDK (G : Gx) (fv : Value) (ks : List Str) (f : List D → List D → M D) : Prop := ∀ σ W st xs ds zs es Q, WOk G.X.K G.ca W st → Reps G.X.K G.ca W xs ds → Reps G.X.K G.ca W zs es → Post G W σ (f ds es st) Q → QCK G fv ks σ xs zs W.h Q
def mCallK (j i : Nat) (m : List D → M D) : List D → List D → M D := fun ds es st => if ds.length = j ∧ es.length = i then m (ds ++ es) st else .bad
/-- what binds n positional values and the keywords ks, in this order -/
def BK (K : PySem.W.Frag) (fd : FuncData) (ps : List Str) (n : Nat) (ks : List Str) : Prop := ∀ (s : Shared) (us ws : List Value), K.In s.heap → us.length = n → ws.length = ks.length → BindsTo s fd ⟨us, ks.zip ws⟩ (ps.zip (us ++ ws))
theorem bk_of {K : PySem.W.Frag} {x qual : Str} {st : Stmt} {f : Addr} {fd : FuncData} {ps ks : List Str} {n : Nat} (F : FD K x qual st [] f fd)
    (h : ∀ (kV doc pm : Value) (an : Option Addr) (cdv ct : Value) (us ws : List Value), us.length = n → ws.length = ks.length → bindArgs (PySem.W.fnOf x qual (defArgs st) (defBody st) (defScope st) .none kV doc pm an cdv ct) ⟨us, ks.zip ws⟩ = pure (ps.zip (us ++ ws))) : BK K fd ps n ks := by
  obtain ⟨oc, od, dV, kV, doc, pm, an, cdv, ct, osl, rfl, lk, hcd, hD, _⟩ := F.ex
  rcases hD with ⟨_, rfl⟩ | ⟨e, _⟩
  · exact fun s us ws _ h1 h2 => .of_eq (h kV doc pm an cdv ct us ws h1 h2)
  · exact absurd rfl e
section
variable {G : Gx} {k n : Nat} {f : Addr} {fd : FuncData} {ps ks : List Str} {m : List D → M D} {p pos apos kpos : Pos} {e o ek : Expr} {es : List Expr} {aa : AM} {ma mk : EM} {name kn : Str}
theorem call_defK {j : Nat} (tk : Takes G.X G.E) (F : FnOk G.X.prog G.X.w G.X.K G.X.mg G.X.base (L2.CX G.X.prog G.X.w) k f fd ps (spM G.X.K G.ca n m)) (hr : Room k G.X.A) (hb : BK G.X.K fd ps j ks) (hj : j + ks.length = n) : CallDK G (.ref f) ks (mCallK j ks.length m) := by
  intro σ W st vs ds zs es Q wk r rz p
  unfold mCallK at p
  split at p
  case isFalse => exact p.elim
  rename_i hl
  intro pins s us ws I rv rw_
  have l1 : us.length = j := by rw [← rv.length, r.length]; exact hl.1
  have l2 : ws.length = ks.length := by rw [← rw_.length, rz.length]; exact hl.2
  have h : spM G.X.K G.ca n m (vs ++ zs) W.h Q fun c d H' => G.E c d σ H' := ⟨W, st, ds ++ es, rfl, wk, r.append rz, by rw [List.length_append, hl.1, hl.2]; exact hj, p⟩
  refine wpAny_call (codeAny_mono (F.run G.X.A G.X.stack s W.h ⟨us, ks.zip ws⟩ _ _ Q _ hr I.env0 (hb s us ws I.kIn l1 l2) (rv.append rw_) h) fun res s' hq => ?_)
  cases res with
  | error ex => exact tk ex s' (XE.of_call I (fun _ _ _ z => z) hq)
  | ok fl =>
    cases fl with
    | ret u => exact I.after hq
    | next => exact hq.elim
    | brk => exact hq.elim
    | cont => exact hq.elim
structure MOkK (G : Gx) (name : Str) (ks : List Str) (c : Nat) (g : List D → List D → M D) : Prop where
  cl : Cls G.X.K (G.ca c)
  me : ∃ f, Meth G.X.K (G.ca c) name f ∧ CallDK G (.ref f) ks g
/-- o.m(e, k = v), a method of one class -/
def eMethK (c : Nat) (g : List D → List D → M D) (name : Str) (o : EM) (a : AM) (b : EM) : EM := fun env st => (o env st).bind fun x s1 => match clsOf x s1 with
  | some (c', fs) => if c' = c then (match fs.lookup name with
    | none => (a env s1).bind fun ds s2 => (b env s2).bind fun y s3 => g (x :: ds) [y] s3
    | _ => .bad) else .bad
  | none => .bad
theorem re_methK {c : Nat} {g : List D → List D → M D} {pl : Sem Bool} (ho : RE G o ma) (ht : MOkK G name [kn] c g) (ha : RA G (e :: es) aa) (hk : RE G ek mk)
    (hall : (backToKw pos (keywordEach [⟨some kn, ek, kpos⟩] G.X.env)).all (·.1.isSome) = true := by rfl) (hks : (backToKw pos (keywordEach [⟨some kn, ek, kpos⟩] G.X.env)).filterMap (·.1) = [kn] := by rfl)
    (hst : starEach (e :: es) G.X.env = (false, eval e G.X.env) :: starEach es G.X.env := by rfl)
    (hpl : ((backTo pos (starEach (e :: es) G.X.env)).any (·.1) || (backToKw pos (keywordEach [⟨some kn, ek, kpos⟩] G.X.env)).any (·.1.isNone)) = false := by rfl)
    (hev : eval (.Call (.Attribute o name apos) (e :: es) [⟨some kn, ek, kpos⟩] pos) G.X.env = (do
      let ov ← eval o G.X.env
      standAt apos.atName
      let (f, first) ← holding [ov] (getMethod ov name pl)
      callWith pos f first (backTo pos (starEach (e :: es) G.X.env)) (backToKw pos (keywordEach [⟨some kn, ek, kpos⟩] G.X.env))) := by rfl) :
    RE G (.Call (.Attribute o name apos) (e :: es) [⟨some kn, ek, kpos⟩] pos) (eMethK c g name ma aa mk) := by
  intro σ W env st Q wk re hp pins s I
  refine PySem.W.methodCall_KW (pl := pl) (thn (ho σ W env st (fun x H => ∃ (f a dx : Addr) (ws : List (Str × V)), x = .ref a ∧ H a = some (.ins (G.ca c) dx ws) ∧ ws.lookup name = none ∧ Cls G.X.K (G.ca c) ∧ Meth G.X.K (G.ca c) name f ∧
    QA G (e :: es) σ H fun vs H2 => QE G ek σ H2 fun z H3 => QCK G (.ref f) [kn] σ (x :: vs) [z] H3 Q) wk re (bindEE hp fun d s1 x W1 e1 w1 r1 p1 => ?_) pins s I) fun u s1 hu => ?_) hev
  · cases hc : clsOf d s1 with
    | none => rw [hc] at p1; exact p1.elim
    | some cf =>
      obtain ⟨c', fs⟩ := cf
      rw [hc] at p1
      dsimp only at p1
      split at p1
      case isFalse => exact p1.elim
      rename_i hcc
      subst hcc
      cases hl : fs.lookup name with
      | some _ => rw [hl] at p1; exact p1.elim
      | none =>
        rw [hl] at p1
        obtain ⟨a, dx, ws, rfl, ha1, rf⟩ := clsOf_at w1 r1 hc
        obtain ⟨cl, f, hm, hcd⟩ := ht
        refine ⟨f, a, dx, ws, rfl, ha1, rf.none hl, cl, hm, ?_⟩
        refine ha σ W1 env s1 _ w1 (re.mono e1) (bindAE p1 fun ds s2 vs W2 e2 w2 r2 p2 => ?_)
        refine hk σ W2 env s2 _ w2 ((re.mono e1).mono e2) (bindEE p2 fun y s3 z W3 e3 w3 r3 p3 => ?_)
        exact hcd σ W3 s3 _ _ _ _ Q w3 (.cons ((r1.mono e2).mono e3) (r2.mono e3)) (.cons r3 .nil) p3
  · obtain ⟨x, H1, I1, rx, f, a, dx, ws, rfl, ea, l, cl, hm, q⟩ := hu
    obtain rfl : u = Value.ref a := rx
    refine getmeth_ok I1 ea cl hm l ?_
    refine PySem.W.callWith_KW (first := [.ref a]) (h₀ := G.X.base) I.ok.mod.kin hm.kp hall (thn (q pos pins s1 I1) fun us s2 hv => ?_) hpl hst
    obtain ⟨vs, H2, I2, r2, q2⟩ := hv
    have pk : PK G.X [⟨some kn, ek, kpos⟩] (tCons (QE G ek) tNil) := pk_cons pe_q pk_nil
    refine thn (pk.run pos pins s2 σ H2 (fun zs H3 => QCK G (.ref f) [kn] σ (.ref a :: vs) zs H3 Q) I2 ?_) fun ws2 s3 hw => ?_
    · intro pins s I
      exact thn (q2 pins s I) fun v s' ⟨z, H3, I3, r3, q3⟩ => ⟨z, H3, I3, r3, q3⟩
    · obtain ⟨zs, H3, I3, r3, q3⟩ := hw
      rw [hks]
      exact ⟨I3.kIn, q3 pins s3 (.ref a :: us) ws2 I3 (.cons rfl r2) r3⟩
end
end Mi
/-! MiSet: sorted({e for x in y}), e an int. -/
namespace Mi
open PySem PySem.Spec PyProof.Rows L2 ClX
/-! ### ascending lists without repeats -/
def ins1 (x : Int) : List Int → List Int
  | [] => [x]
  | y :: l => if x < y then x :: y :: l else if x = y then y :: l else y :: ins1 x l
def dsort (l : List Int) : List Int := l.foldr ins1 []
theorem ins1_mem {x z : Int} : ∀ {l : List Int}, z ∈ ins1 x l ↔ z = x ∨ z ∈ l
  | [] => by simp [ins1]
  | y :: l => by
    unfold ins1
    split
    · simp
    · split
      · rename_i h; subst h; simp
      · rw [List.mem_cons, ins1_mem (l := l), List.mem_cons]
        constructor
        · rintro (h | h | h)
          · exact .inr (.inl h)
          · exact .inl h
          · exact .inr (.inr h)
        · rintro (h | h | h)
          · exact .inr (.inl h)
          · exact .inl h
          · exact .inr (.inr h)
theorem ins1_asc {x : Int} : ∀ {l : List Int}, l.Pairwise (· < ·) → (ins1 x l).Pairwise (· < ·)
  | [], _ => List.pairwise_singleton ..
  | y :: l, h => by
    obtain ⟨h1, h2⟩ := List.pairwise_cons.mp h
    unfold ins1
    split
    · rename_i hx
      refine List.pairwise_cons.mpr ⟨fun z hz => ?_, h⟩
      rcases List.mem_cons.mp hz with e | e
      · rw [e]; exact hx
      · have := h1 z e; omega
    · split
      · exact h
      · refine List.pairwise_cons.mpr ⟨fun z hz => ?_, ins1_asc h2⟩
        rcases ins1_mem.mp hz with e | e
        · rw [e]; omega
        · exact h1 z e
theorem dsort_mem {z : Int} : ∀ {l : List Int}, z ∈ dsort l ↔ z ∈ l
  | [] => Iff.rfl
  | x :: l => by
    show z ∈ ins1 x (dsort l) ↔ _
    rw [ins1_mem, dsort_mem, List.mem_cons]
theorem dsort_asc : ∀ (l : List Int), (dsort l).Pairwise (· < ·)
  | [] => List.Pairwise.nil
  | x :: l => ins1_asc (dsort_asc l)
theorem asc_one : ∀ {l m : List Int}, l.Pairwise (· < ·) → m.Pairwise (· < ·) → (∀ k, k ∈ l ↔ k ∈ m) → l = m
  | [], [], _, _, _ => rfl
  | [], y :: m, _, _, h => absurd ((h y).mpr (List.mem_cons_self ..)) (by simp)
  | x :: l, [], _, _, h => absurd ((h x).mp (List.mem_cons_self ..)) (by simp)
  | x :: l, y :: m, hl, hm, h => by
    obtain ⟨a1, a2⟩ := List.pairwise_cons.mp hl
    obtain ⟨b1, b2⟩ := List.pairwise_cons.mp hm
    have e : x = y := by
      rcases List.mem_cons.mp ((h x).mp (List.mem_cons_self ..)) with z | z
      · exact z
      · rcases List.mem_cons.mp ((h y).mpr (List.mem_cons_self ..)) with w | w
        · exact w.symm
        · have := a1 y w; have := b1 x z; omega
    subst e
    congr 1
    refine asc_one a2 b2 fun k => ?_
    have hk := h k
    rw [List.mem_cons, List.mem_cons] at hk
    constructor
    · intro z
      rcases hk.mp (.inr z) with w | w
      · have := a1 k z; omega
      · exact w
    · intro z
      rcases hk.mpr (.inr z) with w | w
      · have := b1 k z; omega
      · exact w
/-! ### sorted(a set), any number of members -/
section
variable {P : Program} {w : World} {A : Around} {E : Value → Shared → Prop} {s : Shared}
theorem sorted_setAny {a : Addr} {S : Int → Bool} {n : Nat} {Q : Value → Shared → Prop} (R : SetR w s.heap a S n) (calm : A.handled = none)
    (fin : ∀ u p (out : Array Value) (c : Nat) (ks : List Int), (∀ b o, s.heap.get? b = some o → u.heap.get? b = some o) → u.gens = s.gens → u.os = s.os → s.heap.objs.size ≤ p →
      u.heap.get? p = some (seqObj "list" out c) → IntsAre out.toList ks → ks.Pairwise (· < ·) → (∀ k, k ∈ ks ↔ S k = true) → ks.length = n → Q (.ref p) u) :
    wpAny (model P w) A (call (.builtin "sorted") [.ref a]) Q E s := by
  obtain ⟨ob, es, ep, tb, hob, exact_, dat, good, nodup, mem, bound, fits, size, ris, led⟩ := R
  have eN : es.toList.length = n := by rw [Array.length_toList]; exact size
  refine Calls.call_function_entry kind_sorted plain_sorted entry_sorted (args_sorted1 _) ?_
  unfold Builtin.«sorted»
  refine wpAny_bind (m := checkCount "sorted" 1 1 _) (wpAny_pure ?_)
  refine wpAny_bind (collect_set (A := A.in1) calm ⟨ob, hob, exact_.1, dat⟩ fits bound ris led fun u1 vs keep1 grow g1 o1 perm => ?_)
  have lenV : vs.length = n := by rw [perm.length_eq, List.length_map]; exact eN
  have lenL : vs.length ≤ sizeLine := by
    rw [lenV, ← size]
    exact fits_of_scanBound bound
  have hInt : IntsAre vs (vs.map Builtin.Re.reRawOf) := ints_of vs fun v hv => by
    obtain ⟨e, he, q⟩ := List.mem_map.mp (perm.mem_iff.mp hv)
    obtain ⟨k, tk, h1, _⟩ := good e he
    exact ⟨k, tk, q.symm.trans h1⟩
  have permK : (vs.map Builtin.Re.reRawOf).Perm (es.toList.map keyOf) := by
    have z := perm.map Builtin.Re.reRawOf
    rw [List.map_map] at z
    exact z
  refine wpAny_bind (wpAny_newList ?_ lenL)
  have at0 : (u1.heap.push (seqObj "list" vs.toArray 0)).get? u1.heap.objs.size = some (seqObj "list" vs.toArray 0) := Heap.get?_push_size _ rfl
  refine wpAny_bind (wpAny_holding (wpAny_call_entry slot_list_sort ⟨_, at0, rfl⟩ entry_list_sort (list_sort_treeAny at0 hInt lenL fun out ks i1 i2 i3 => ⟨_, rfl, ?_⟩) (args_list_sort _)))
  obtain ⟨c, hc⟩ := sortedHeap_at (vs := vs) (out := out) at0
  have permN : ks.Perm (es.toList.map keyOf) := i2.trans permK
  refine wpAny_pure ⟨_, rfl, fin _ u1.heap.objs.size out c ks (fun b u e => ?_) g1 o1 grow hc i1 (lt_of_le_nodup ks i3 (permN.nodup_iff.mpr nodup)) (fun k => by rw [permN.mem_iff, ← mem k]) (by rw [permN.length_eq, List.length_map]; exact eN)⟩
  have q := keep1 b u e
  have lt := Heap.lt_size q
  show (sortedHeap (u1.heap.push (seqObj "list" vs.toArray 0)) u1.heap.objs.size vs out).get? b = some u
  rw [sortedHeap_old (Nat.ne_of_lt lt) (by rw [size_push']; exact Nat.lt_succ_of_lt lt)]
  exact Heap.get?_push_of_some _ q
end
section
variable {X : Cx}
def rSortSA (w : World) : List V → Hp → VK → Prop := fun vs H Q => ∃ (a : Addr) (S : Int → Bool) (n : Nat), vs = [V.ref a] ∧ H a = some (SetO w a S n) ∧ n < scanBound ∧
  ∀ (ks : List Int) (p : Addr), ks.Pairwise (· < ·) → (∀ k, k ∈ ks ↔ S k = true) → H p = none → Q (.ref p) (upd H p (.lst (ks.map V.int)))
theorem cr_sortSA (hc : X.calm = true) : CallR X (.builtin "sorted") (rSortSA X.w) := by
  intro pins s σ H vs us Q I r h
  obtain ⟨a, S, n, rfl, ha, hn, q⟩ := h
  rw [Vals.ref1 r]
  refine sorted_setAny (setO_get I ha) (I.ok.hd hc) fun u p out c ks k1 g1 o1 hp ho i1 i2 i3 i4 => ?_
  have lenK : (ks.map V.int).length ≤ sizeLine := by rw [List.length_map, i4]; exact fits_of_scanBound hn
  have free : H p = none := I.hok.fresh hp
  have same : u = { s with heap := u.heap, gens := u.gens, drawn := u.drawn, toks := u.toks } := by
    obtain ⟨_, _, _, _, _⟩ := u
    obtain ⟨_, _, _, _, _⟩ := s
    dsimp only at o1
    rw [o1]
  have now : Inv X pins σ (upd H p (.lst (ks.map V.int))) u := by
    rw [same]
    refine I.call (ch := []) (Un.laid k1 hp free) (I.hok.laid k1 hp ?_) ?_ fun _ z => by cases z
    · exact ⟨lenK, out.toList, c, vals_of_ints i1, ho⟩
    · rw [g1]; exact I.bare
  exact ⟨.ref p, _, now, rfl, q ks p i2 i3 free⟩
end
/-! ### {e for x in y ..}, e an int -/
section
variable {X : Cx}
theorem setO_lay {w : World} {P : Program} {H : Hp} {h : Heap} {a : Addr} {S : Int → Bool} {n : Nat} (R : SetR w h a S n) : ObjOk P w H h a (SetO w a S n) := setO_new R
/-- a member more -/
def moreO (w : World) (D : Addr) (S : Int → Bool) (n : Nat) (c : Int) : HO := SetO w D (fun j => S j || decide (j = c)) (if S c = true then n else n + 1)
theorem add_one {pins : List (Addr × Obj)} {σ : L2.St} {H : Hp} {s : Shared} {E : Value → Shared → Prop} {D : Addr} {S : Int → Bool} {n : Nat} {c : Int} {tk : Tok} {Q : Value → Shared → Prop} (I : Inv X pins σ H s) (hD : H D = some (SetO X.w D S n)) (room : n + 1 < scanBound)
    (k : ∀ u, Inv X pins σ (upd H D (moreO X.w D S n c)) u → Q .none u) : wpAny (model X.prog X.w) X.A (call (.builtin "set.add") [.ref D, .int c tk]) Q E s := by
  refine setR_add (setO_get I hD) room fun h2 sb new => ?_
  have lives : ∃ u, h2.get? D = some u := by
    obtain ⟨o, _, _, _, ho, _⟩ := id new
    exact ⟨o, ho⟩
  refine k _ (I.write (e := D) (t' := s.toks + 1) ?_ (.inl rfl) (fun b u hb hu => (sb.2 b hb).trans hu) lives (setO_new new))
  rw [hD]
  trivial
def tSi (w : World) (wi : TI) (g : TG) (tt : TT) (te : TE) (vs : List Nat) : TE := fun σ H Q => wi σ H fun J H1 => ∀ D, H1 D = none → ∃ I : Nat → Nat → Hp → Prop, (∃ m, I 0 m (upd H1 D (SetO w D (fun _ => false) 0))) ∧
  ∀ i m H, I i m H → (J.stop i H ∧ Q (.ref D) H) ∨ (J.go i H ∧ ∃ Nx : Hp → Prop, (∀ H', Nx H' → ∃ m', m' < m ∧ I (i + 1) m' H') ∧
    ∀ x H', J.yld i H x H' → g x (wipe σ vs) H' fun σ2 H2 => wipe σ2 vs = wipe σ vs ∧ tt σ2 H2 fun b H3 =>
      if b = true then te σ2 H3 fun y H4 => ∃ (c : Int) (S : Int → Bool) (n : Nat), y = .int c ∧ H4 D = some (SetO w D S n) ∧ n + 1 < scanBound ∧ Nx (upd H4 D (moreO w D S n c)) else Nx H3)
/-- the new set, empty -/
def emptyS (w : World) : Obj := { cls := .type "set", dict := none, data := .set #[] 0 (.fresh 0 0 (!w.params.followText "set-order")) }
theorem si_core {pins : List (Addr × Obj)} {s : Shared} {σ : L2.St} {H : Hp} {Q : VK} {elt tg iter : Expr} {ifs : List Expr} {scope : Scope} {own : List (Str × Nat)} {pos pos' : Pos} {wi : TI} {g : TG} {tt : TT} {te : TE} {use : Option (Value → Sem Unit)} {Qf : Value → Shared → Prop}
    (calm : X.calm = true) (nd : X.N.Nodup) (I : Inv X pins σ H s) (pi : PI X tg iter wi) (ok : BlkOk X.N X.env.scope scope own)
    (pg : ∀ s H C cl fp, PG (X.blk s H scope (compEnvC scope cl C X.env) fp) tg g) (pt : ∀ s H C cl fp, PTs (X.blk s H scope (compEnvC scope cl C X.env) fp) ifs tt)
    (pe : ∀ s H C cl fp, PE (X.blk s H scope (compEnvC scope cl C X.env) fp) elt te) (fold : ∀ x, foldedSetIterable iter X.env x = pure x)
    (h : tSi X.w wi g tt te (own.map (·.2)) σ H Q)
    (fin : ∀ D C u m H', Inv X pins σ H' u → Q (.ref D) H' → u.heap.Ns C m → FpOk X pins H' C → compPost (model X.prog X.w) X.A X.xe use Qf (.ref D) C (.ok .next) u) :
    wpAny (model X.prog X.w) X.A (comprehension (.SetComp elt [⟨tg, iter, ifs, 0⟩] scope pos) scope X.env pos' (newSet (.type "set")) false (eval iter X.env) use) Qf X.xe s := by
  have clo : ∀ y ∈ scope.names, y.2 = .free → ∃ c, X.env.cells.lookup y.1 = some c := fun y hy e =>
    I.ok.has _ ((ok.free y hy e).imp id id)
  refine wpAny_comprehension_free (use := use) rfl fold (closure_ok clo) ok.kind (fun y hy e => by rw [ok.uniq y hy, e])
    (thn (pi.run pins s σ H _ I h) fun xv u1 hx => thn hx fun itv u2 hit => ?_)
  obtain ⟨it, fp, tn, J, G2, rfl, I2, T, go2, fr2, q⟩ := hit
  refine PpSet.newSet_ok (newEnv_comp ?_)
  obtain ⟨D, eD⟩ : ∃ D, u2.heap.objs.size = D := ⟨_, rfl⟩
  rw [eD]
  have freeD : G2 D = none := I2.hok.fresh (Nat.le_of_eq eD)
  obtain ⟨Iv, ⟨m0, start⟩, turn⟩ := q D freeD
  obtain ⟨u3, e3⟩ : ∃ u3 : Shared, ({ u2 with heap := u2.heap.push (emptyS X.w) } : Shared) = u3 := ⟨_, rfl⟩
  have heap3 : u3.heap = u2.heap.push (emptyS X.w) := by rw [← e3]
  obtain ⟨G3, eG3⟩ : ∃ G3, upd G2 D (SetO X.w D (fun _ => false) 0) = G3 := ⟨_, rfl⟩
  have I3 : Inv X pins σ G3 u3 := by
    rw [← eG3, ← e3]
    refine I2.laid (t' := u2.toks) (fun b o e => Heap.get?_push_of_some _ e) (Nat.le_of_eq eD) ?_
    rw [← eD]
    exact setO_new (setR_fresh X.w)
  have lt3 : ∀ b ∈ fp, b < u2.heap.objs.size := fun b hb => let ⟨o, e, _⟩ := T.obj _ _ go2 b hb; Heap.lt_size e
  have fr3 : ∀ b ∈ fp, FpOk X pins G3 b ∧ b < u3.heap.objs.size := fun b hb => by
    have lt := lt3 b hb
    rw [heap3, Heap.size_push, ← eG3]
    refine ⟨⟨?_, (fr2 b hb).2⟩, Nat.lt_succ_of_lt lt⟩
    rw [upd_ne (by rw [← eD]; exact Nat.ne_of_lt lt)]
    exact (fr2 b hb).1
  have go3 : tn 0 u3.heap := T.keep _ _ _ go2 fun b _ o e => by rw [heap3]; exact Heap.get?_push_of_some _ e
  have I4 := block_start I3 ok nd fr3
  -- the block
  obtain ⟨cells, eC⟩ : ∃ cells, cellsFrom (u3.heap.objs.size + 1) scope.names (cloFrom X.env.cells scope.names []) = cells := ⟨_, rfl⟩
  have vg := pg u3 G3 u3.heap.objs.size cells fp
  have vt := pt u3 G3 u3.heap.objs.size cells fp
  have ve := pe u3 G3 u3.heap.objs.size cells fp
  rw [eC] at I4
  have goal_ : codeAny (model X.prog X.w) X.A (.compStart (.SetComp elt [⟨tg, iter, ifs, 0⟩] scope pos) 0 (.ref it) (.ref D) (compEnvC scope cells u3.heap.objs.size X.env)) (compPost (model X.prog X.w) X.A X.xe use Qf (.ref D) u3.heap.objs.size) { u3 with heap := pushCells (u3.heap.push { cls := .type "dict", data := .dict #[] }) scope.names } := by
    obtain ⟨be, ebe⟩ : ∃ be, compEnvC scope cells u3.heap.objs.size X.env = be := ⟨_, rfl⟩
    rw [ebe] at I4 vg vt ve ⊢
    have locs : be.locals = u3.heap.objs.size := by rw [← ebe]; rfl
    obtain ⟨u4, e4⟩ : ∃ u4 : Shared, ({ u3 with heap := pushCells (u3.heap.push { cls := .type "dict", data := .dict #[] }) scope.names } : Shared) = u4 := ⟨_, rfl⟩
    rw [e4] at I4 ⊢
    have go4 : tn 0 u4.heap := T.keep _ _ _ go3 fun b _ o e => by rw [← e4]; exact pushCells_keeps _ _ _ _ (Heap.get?_push_of_some _ e)
    have stand : ∀ {τ : L2.St} {G' : Hp} {u : Shared}, Inv (X.blk u3 G3 scope be fp) [] τ G' u → (∀ b ∈ fp, G' b = none) → ∀ b ∈ fp, FpOk (X.blk u3 G3 scope be fp) [] G' b := fun {τ G' u} Iu none_ b hb =>
      ⟨none_ b hb, (Iu.ok.exf b hb).1, Iu.ok.exfs b hb, .inl hb, fun x c e => (Iu.ok.exf b hb).2 x c e, fun p hp => absurd (show p ∈ ([] : List (Addr × Obj)) ++ [] from hp) (by simp)⟩
    have loop : codeAny (model X.prog X.w) X.A (.compLoop (.SetComp elt [⟨tg, iter, ifs, 0⟩] scope pos) 0 (.ref it) (.ref D) be) (compPost (model X.prog X.w) X.A X.xe use Qf (.ref D) u3.heap.objs.size) u4 := by
      refine PpSet.compLoopS_any (fun n u => ∃ i G', Inv (X.blk u3 G3 scope be fp) [] (wipe σ (own.map (·.2))) G' u ∧ tn i u.heap ∧ (∀ b ∈ fp, G' b = none) ∧ Iv i n G') ?_ m0 ⟨0, G3, I4, go4, fun b hb => (fr3 b hb).1.1, by rw [← eG3]; exact start⟩
      rintro n u5 ⟨i, G5, I5, go5, no5, iv5⟩
      rcases turn i n G5 iv5 with ⟨stop, last⟩ | ⟨go, Nx, less, step⟩
      · refine thnF (T.done (X.blk u3 G3 scope be fp) rfl rfl rfl calm i [] u5 _ G5 (fun _ _ => False) I5 (stand I5 no5) go5 stop) fun r u6 ⟨er, I6⟩ => ?_
        subst er
        have I7 : Inv X pins σ G5 u6 := I3.call' (ch := fp) I6.os I6.base I6.hok I6.bare fun b hb => ⟨(fr3 b hb).1.2.2.2.1, (fr3 b hb).1.2.1, (fr3 b hb).1.2.2.2.2.1, (fr3 b hb).1.2.2.2.2.2⟩
        obtain ⟨mm, ns, _⟩ := I6.loc
        have ns : u6.heap.Ns be.locals mm := ns
        have nl : G5 be.locals = none := I6.free
        rw [locs] at ns nl
        exact fin D u3.heap.objs.size u6 mm G5 I7 last ns (I3.fpOk (Nat.le_refl _) nl)
      · refine thnF (T.item (X.blk u3 G3 scope be fp) rfl rfl rfl calm i [] u5 _ G5 (fun _ _ => False) I5 (stand I5 no5) go5 go) fun r u6 ⟨v, er, h6⟩ => ?_
        subst er
        refine thnF h6 fun _ u7 ⟨x, G7, I7, r7, y7, go7, no7⟩ => ?_
        refine thnF (vg.run _ u7 _ G7 x v _ (I7.pinned (stand I7 no7) (T.obj _ _ go7)) r7 (step x G7 y7)) fun _ u8 ⟨τ8, G8, I8, w8, q8⟩ => ?_
        refine thnF (vt.run _ u8 τ8 G8 _ I8 q8) fun b u9 ⟨G9, I9, q9⟩ => ?_
        have next : ∀ {u : Shared} {G' : Hp}, Inv (X.blk u3 G3 scope be fp) ([] ++ pinsAt fp u7.heap) τ8 G' u → Nx G' → ∃ m, m < n ∧ ∃ i G', Inv (X.blk u3 G3 scope be fp) [] (wipe σ (own.map (·.2))) G' u ∧ tn i u.heap ∧ (∀ b ∈ fp, G' b = none) ∧ Iv i m G' := fun {u G'} Iu nx => by
          obtain ⟨m', lt, iv'⟩ := less G' nx
          have held : ∀ b ∈ fp, ∀ o, u7.heap.get? b = some o → u.heap.get? b = some o ∧ G' b = none := fun b hb o e => by
            have z := Iu.pin (b, o) (List.mem_append_right _ (List.mem_append_right _ (mem_pinsAt hb e)))
            exact ⟨z.1, z.2.1⟩
          refine ⟨m', lt, i + 1, G', (Iu.unpinned (pins := [])).weak ?_ (fun j v e => ?_), T.keep _ _ _ go7 fun b hb o e => (held b hb o e).1, fun b hb => ?_, iv'⟩
          · rw [← w8, wipe_length]
          · rw [← w8] at e
            exact (wipe_some e).1
          · obtain ⟨o, e, _⟩ := T.obj _ _ go7 b hb
            exact (held b hb o e).2
        cases b with
        | false =>
          rw [if_neg Bool.false_ne_true] at q9
          exact next I9 q9
        | true =>
          rw [if_pos rfl] at q9
          refine thnF (ve.run _ u9 τ8 G9 _ I9 q9) fun z u10 ⟨yv, G10, I10, r10, c, S, k, ey, atD, few, nx⟩ => ?_
          subst ey
          obtain ⟨tk, rfl⟩ : ∃ tk, z = .int c tk := r10
          exact add_one (X := X.blk u3 G3 scope be fp) I10 atD few fun u11 I11 => next I11 nx
    exact PpSet.codeAny_compStart_set loop (T.self X.A 0 _ _ _ go4 loop)
  rw [← e3] at goal_
  rw [← eC, ← e3] at goal_
  exact goal_
theorem pe_si {elt tg iter : Expr} {ifs : List Expr} {scope : Scope} {own : List (Str × Nat)} {pos : Pos} {wi : TI} {g : TG} {tt : TT} {te : TE} (calm : X.calm = true) (nd : X.N.Nodup) (pi : PI X tg iter wi) (ok : BlkOk X.N X.env.scope scope own)
    (pg : ∀ s H C cl fp, PG (X.blk s H scope (compEnvC scope cl C X.env) fp) tg g) (pt : ∀ s H C cl fp, PTs (X.blk s H scope (compEnvC scope cl C X.env) fp) ifs tt)
    (pe : ∀ s H C cl fp, PE (X.blk s H scope (compEnvC scope cl C X.env) fp) elt te) (fold : ∀ x, foldedSetIterable iter X.env x = pure x := by exact fold_ns rfl) :
    PE X (.SetComp elt [⟨tg, iter, ifs, 0⟩] scope pos) (tSi X.w wi g tt te (own.map (·.2))) := by
  refine ⟨fun pins s σ H Q I h => ?_⟩
  rw [PpSet.eval_SetComp]
  refine si_core calm nd I pi ok pg pt pe fold h fun D C u m H' Iu q ns fp => ⟨m, ns, fun h2 sb => ?_⟩
  obtain ⟨a0, a1, a2, a3, a4, a5⟩ := fp
  exact ⟨.ref D, H', Iu.turned (t' := u.toks) (fun b o hb e => (sb.2 b hb).trans e) a0 a1 a3 a4 a5, rfl, q⟩
end
/-! ### sorted({e for x in y ..}) -/
def setLoop (tg : TgM) (tst : TM) (elt : EM) (env : En) : List D → List Int → M (List Int)
  | [], acc, st => .ok acc st
  | d :: ds, acc, st => match tg d env with
    | none => .bad
    | some env1 => match tst env1 st with
      | .ok k s1 => if k = true then (match elt env1 s1 with
          | .ok (.int c) s2 => if acc.length < 4000 then setLoop tg tst elt env ds (acc ++ [c]) s2 else .bad
          | _ => .bad) else setLoop tg tst elt env ds acc s1
      | _ => .bad
def kSorted (r : Res (List Int)) : Res (List D) := match r with
  | .ok is s => .ok ((dsort is).map D.int) s
  | _ => .bad
def kSortSet (tg : TgM) (tst : TM) (elt : EM) (env : En) (ds : List D) : M (List D) := fun s => kSorted (setLoop tg tst elt env ds [] s)
def lSortSet (it : AM) (tg : TgM) (tst : TM) (elt : EM) (vs : List Nat) : AM := fun env st => (it env st).bind (kSortSet tg tst elt (wipeE env vs))
section
variable {G : Gx} {tg iter elt : Expr} {ifs : List Expr} {scope : Scope} {mi : AM} {js vs : List Nat} {mt : TgM} {tst : TM} {me : EM}
theorem set_core {W1 : Wd} {σ : L2.St} {env : En} {s1 : Sto} {ds : List D} {J : It} {Q : VK} (hj : ∀ j ∈ js, j ∈ vs) {g : TG} {tt : TT} {te : TE}
    (hg : ∀ σ W env v d Q, RepE G.X.K G.ca G.xc W σ env → Rep G.X.K G.ca W v d → PostG G W σ env js (mt d env) Q → g v σ W.h Q)
    (ht : ∀ σ W env st Q, WOk G.X.K G.ca W st → RepE G.X.K G.ca G.xc W σ env → (∀ k s1, tst env st = .ok k s1 → ∀ W', Ext W W' → WOk G.X.K G.ca W' s1 → Q k W'.h) → (∃ k s1, tst env st = .ok k s1) → tt σ W.h Q)
    (he : ∀ σ W env st Q, WOk G.X.K G.ca W st → RepE G.X.K G.ca G.xc W σ env → (∀ d s1, me env st = .ok d s1 → ∀ v W', Ext W W' → WOk G.X.K G.ca W' s1 → Rep G.X.K G.ca W' v d → Q v W'.h) → (∃ d s1, me env st = .ok d s1) → te σ W.h Q)
    (w1 : WOk G.X.K G.ca W1 s1) (re0 : RepE G.X.K G.ca G.xc W1 σ env) (j1 : JOk G.X.K G.ca W1 J ds)
    (p1 : PostL G W1 σ (kSorted (setLoop mt tst me (wipeE env vs) ds [] s1)) Q) : tSi G.X.w (fun _ _ R => R J W1.h) g tt te vs σ W1.h fun x H1 => rSortSA G.X.w [x] H1 Q := by
  generalize hr0 : setLoop mt tst me (wipeE env vs) ds [] s1 = r0 at p1
  intro Dl hD
  have re1 : RepE G.X.K G.ca G.xc W1 (L2.wipe σ vs) (wipeE env vs) := re0.wipe vs
  have hp0 : (W1.lay Dl (SetO G.X.w Dl (fun _ => false) 0) hD).h Dl ≠ none := by
    show upd W1.h Dl _ Dl ≠ none
    rw [upd_same]; exact fun z => by cases z
  have e0 := Wd.own_ext (W1.lay_ext (o := SetO G.X.w Dl (fun _ => false) 0) hD) hD hp0
  refine ⟨fun i m H' => ∃ (W' : Wd) (st' : Sto) (acc : List Int) (S : Int → Bool) (k : Nat), H' = W'.h ∧ m = ds.length - i ∧ i ≤ ds.length ∧ Ext W1 W' ∧ W'.av Dl ∧ Dl ∉ W'.g ∧ W'.h Dl = some (SetO G.X.w Dl S k) ∧ WOk G.X.K G.ca W' st' ∧ (k ≤ acc.length ∧ acc.length ≤ 4000) ∧ (∀ j, S j = true ↔ j ∈ acc) ∧
      setLoop mt tst me (wipeE env vs) (ds.drop i) acc st' = r0,
    ⟨ds.length, (W1.lay Dl (SetO G.X.w Dl (fun _ => false) 0) hD).own Dl hp0, s1, [], fun _ => false, 0, rfl, rfl, Nat.zero_le _, e0, .inr rfl, fun z => W1.trk Dl (W1.gav Dl z) hD, upd_same, w1.own hD hp0, ⟨Nat.le_refl _, Nat.zero_le _⟩, fun j => by simp, hr0⟩, ?_⟩
  rintro i m H' ⟨W', st', acc, S, k, rfl, rfl, hi', x', hv, ng, hh, w', hk, hS, eq⟩
  obtain ⟨jg, jst⟩ := j1 W' st' x'.kp w'
  cases hd : ds[i]? with
  | none =>
    have ei : i = ds.length := Nat.le_antisymm hi' (List.getElem?_eq_none_iff.mp hd)
    subst ei
    rw [List.drop_length] at eq
    rw [← eq] at p1
    refine .inl ⟨jst, Dl, S, k, rfl, hh, by have : scanBound = 4096 := rfl; omega, fun ks p up mem free => ?_⟩
    have eks : ks = dsort acc := asc_one up (dsort_asc acc) fun z => by rw [mem, hS, dsort_mem]
    subst eks
    have hpn : (W'.lay p (.lst ((dsort acc).map V.int)) free).h p ≠ none := by
      show upd W'.h p _ p ≠ none
      rw [upd_same]; exact fun z => by cases z
    have e2 := Wd.own_ext (W'.lay_ext (o := .lst ((dsort acc).map V.int)) free) free hpn
    exact p1 p _ _ (x'.trans e2) (x'.stay p free) (.inr rfl) (fun z => W'.trk p (W'.gav p z) free) upd_same (w'.own free hpn) (reps_ints _)
  | some d =>
    have hl : i < ds.length := (List.getElem?_eq_some_iff.mp hd).1
    obtain ⟨go, yl⟩ := jg i d hd
    rw [drop_at hd] at eq
    refine .inr ⟨go, fun H2 => ∃ (W2 : Wd) (st2 : Sto) (acc2 : List Int) (S2 : Int → Bool) (k2 : Nat), H2 = W2.h ∧ Ext W1 W2 ∧ W2.av Dl ∧ Dl ∉ W2.g ∧ W2.h Dl = some (SetO G.X.w Dl S2 k2) ∧ WOk G.X.K G.ca W2 st2 ∧ (k2 ≤ acc2.length ∧ acc2.length ≤ 4000) ∧ (∀ j, S2 j = true ↔ j ∈ acc2) ∧
        setLoop mt tst me (wipeE env vs) (ds.drop (i + 1)) acc2 st2 = r0,
      fun H2 ⟨W2, st2, acc2, S2, k2, h1, h2, h3, h4, h5, h6, h7, h8, h9⟩ => ⟨ds.length - (i + 1), by omega, W2, st2, acc2, S2, k2, h1, rfl, hl, h2, h3, h4, h5, h6, h7, h8, h9⟩, fun x H2 y => ?_⟩
    obtain ⟨W2, rfl, e2, w2, r2⟩ := yl x H2 y
    have nb : kSorted r0 ≠ .bad := fun z => by rw [z] at p1; exact p1
    rw [← eq] at nb
    have rb : RepE G.X.K G.ca G.xc W2 (L2.wipe σ vs) (wipeE env vs) := (re1.mono x').mono e2
    refine hg _ W2 _ x d _ rb r2 ?_
    unfold setLoop at eq nb
    cases hm : mt d (wipeE env vs) with
    | none => rw [hm] at nb; exact absurd rfl nb
    | some env1 =>
      rw [hm] at eq nb
      dsimp only at eq nb
      intro σ1 df x1 re2
      refine ⟨wipe_dif hj df, ?_⟩
      cases hts : tst env1 st' with
      | bad => rw [hts] at nb; exact absurd rfl nb
      | exc c fs s2 => rw [hts] at nb; exact absurd rfl nb
      | ok b s2 =>
        rw [hts] at eq nb
        dsimp only at eq nb
        refine ht σ1 W2 env1 st' _ w2 re2 (fun b' s2' ek W3 e3 w3 => ?_) ⟨b, s2, hts⟩
        rw [hts] at ek
        cases ek
        have h3 : W3.h Dl = some (SetO G.X.w Dl S k) := (e3.own Dl (e2.av Dl hv) (e2.kp.nocell hv ng)).trans ((e2.own Dl hv ng).trans hh)
        cases b with
        | false =>
          rw [if_neg Bool.false_ne_true] at eq nb ⊢
          exact ⟨W3, s2, acc, S, k, rfl, (x'.trans e2).trans e3, e3.av Dl (e2.av Dl hv), e3.kp.nocell (e2.av Dl hv) (e2.kp.nocell hv ng), h3, w3, hk, hS, eq⟩
        | true =>
          rw [if_pos rfl] at eq nb ⊢
          cases hel : me env1 s2 with
          | bad => rw [hel] at nb; exact absurd rfl nb
          | exc c fs s4 => rw [hel] at nb; exact absurd rfl nb
          | ok y2 s4 =>
            rw [hel] at eq nb
            refine he σ1 W3 env1 s2 _ w3 (re2.mono e3) (fun d' s4' ed v W4 e4 w4 r4 => ?_) ⟨y2, s4, hel⟩
            rw [hel] at ed
            cases ed
            cases y2 with
            | int c =>
              dsimp only at eq nb
              have a3 := e3.av Dl (e2.av Dl hv)
              have g3 := e3.kp.nocell (e2.av Dl hv) (e2.kp.nocell hv ng)
              have a4 := e4.av Dl a3
              have g4 := e4.kp.nocell a3 g3
              have h4 : W4.h Dl = some (SetO G.X.w Dl S k) := (e4.own Dl a3 g3).trans h3
              by_cases hlen : acc.length < 4000
              · rw [if_pos hlen] at eq nb
                cases r4
                have hp4 : W4.h Dl ≠ none := by rw [h4]; exact fun z => by cases z
                have k4 := W4.wr_kp (o := moreO G.X.w Dl S k c) hp4 a4
                refine ⟨c, S, k, rfl, h4, by have : scanBound = 4096 := rfl; omega, W4.wr Dl (moreO G.X.w Dl S k c) hp4, s4, acc ++ [c], fun j => S j || decide (j = c), if S c = true then k else k + 1, rfl, ?_, a4, g4, upd_same, w4.wr hp4 a4 g4, ⟨?_, ?_⟩, fun j => ?_, eq⟩
                · have e14 := ((x'.trans e2).trans e3).trans e4
                  refine ⟨fun q o n h => k4.keep q o (fun z => ?_) (e14.keep q o n h), fun q h1 h2 => ?_, e14.av, e14.new, fun q h => e14.stay q (k4.stay q h), e14.pre⟩
                  · rcases e14.new q z with z | z
                    · exact n z
                    · rw [h] at z; cases z
                  · have nq : q ≠ Dl := fun z => by subst z; exact W1.trk q h1 hD
                    show upd W4.h Dl _ q = W1.h q
                    rw [upd_ne nq]
                    exact e14.own q h1 h2
                · rw [List.length_append, List.length_singleton]
                  split <;> omega
                · rw [List.length_append, List.length_singleton]
                  omega
                · rw [Bool.or_eq_true, decide_eq_true_eq, hS j, List.mem_append, List.mem_singleton]
              · rw [if_neg hlen] at nb; exact absurd rfl nb
            | _ => exact absurd rfl nb
theorem rl_sortSet {own : List (Str × Nat)} {p cpos pos : Pos} (calm : G.X.calm = true) (nd : G.X.N.Nodup) (ok : BlkOk G.X.N G.X.env.scope scope own) (hgl : Gl G.X "sorted") (hm : G.X.mg "sorted" = none)
    (hi : RI G tg iter mi) (hg : ∀ s H0 C cl fp, RG (G.blk s H0 scope C cl fp) tg js mt) (ht : ∀ s H0 C cl fp, RTs (G.blk s H0 scope C cl fp) ifs tst) (he : ∀ s H0 C cl fp, RE (G.blk s H0 scope C cl fp) elt me) (hj : ∀ j ∈ js, j ∈ own.map (·.2))
    (hst : starEach [.SetComp elt [⟨tg, iter, ifs, 0⟩] scope cpos] G.X.env = (false, eval (.SetComp elt [⟨tg, iter, ifs, 0⟩] scope cpos) G.X.env) :: starEach [] G.X.env := by exact starEach_ns rfl)
    (fold : ∀ x, foldedSetIterable iter G.X.env x = pure x := by exact fold_ns rfl) :
    RL G (.Call (.Name "sorted" p) [.SetComp elt [⟨tg, iter, ifs, 0⟩] scope cpos] [] pos) (lSortSet mi mt tst me (own.map (·.2))) := by
  intro σ W env st Q wk re hp
  refine qe_of (pe_callB (cr_sortSA calm) hgl hm rfl (pa_cons (pe_si calm nd pi_q ok (fun s H0 C cl fp => ⟨fun pins s1 σ H v u Q I r h => h s H0 C cl fp pins s1 u I r⟩) (fun s H0 C cl fp => ⟨fun pins s1 σ H Q I h => (pts_q (G := G.blk s H0 scope C cl fp)).run pins s1 σ H Q I (h s H0 C cl fp)⟩) (fun s H0 C cl fp => ⟨fun pins s1 σ H Q I h => h s H0 C cl fp pins s1 I⟩) fold
    (g := gB G scope tg) (tt := tB1 G scope ifs) (te := eB1 G scope elt)) pa_nil) (by decide) (by decide) hst) ?_
  refine hi σ W env st _ wk re (bindIL hp fun ds s1 J W1 e1 w1 j1 p1 => ?_)
  refine set_core (G := G) (mt := mt) (tst := tst) (me := me) (g := gB G scope tg) (tt := tB1 G scope ifs) (te := eB1 G scope elt) (Q := Q) hj (fun σ W env v d Q re r p s H0 C cl fp => hg s H0 C cl fp σ W env v d Q re r p) (fun σ W env st Q w re p ex s H0 C cl fp => ht s H0 C cl fp σ W env st Q w re ?_) (fun σ W env st Q w re p ex s H0 C cl fp => he s H0 C cl fp σ W env st Q w re ?_) w1 (re.mono e1) j1 p1
  · obtain ⟨k, s1, hk⟩ := ex
    rw [hk]
    exact p k s1 hk
  · obtain ⟨k, s1, hk⟩ := ex
    rw [hk]
    exact p k s1 hk
end
end Mi
/-! MiCompX: list comprehensions over what may be a cell. -/
namespace Mi
open PySem PySem.Spec PyProof.Rows L2
noncomputable def compLoopX (gd : Option (Nat × List D)) (tg : TgM) (tst : TM) (elt : EM) (env : En) : List D → List D → M (List D)
  | [], acc, st => cif (gOk gd st) (.ok acc st) .bad
  | d :: ds, acc, st => cif (gOk gd st) (match tg d env with
    | none => .bad
    | some env1 => match tst env1 st with
      | .ok k s1 => if k = true then (match elt env1 s1 with
          | .ok y s2 => if acc.length < LIM then compLoopX gd tg tst elt env ds (acc ++ [y]) s2 else .bad
          | _ => .bad) else compLoopX gd tg tst elt env ds acc s1
      | _ => .bad) .bad
noncomputable def kCompX (tg : TgM) (tst : TM) (elt : EM) (env : En) (x : XI) (s : Sto) : Res (List D) := compLoopX x.1 tg tst elt env x.2 [] s
noncomputable def lCompX (it : XM) (tg : TgM) (tst : TM) (elt : EM) (vs : List Nat) : AM := fun env st => (it env st).bind (kCompX tg tst elt (wipeE env vs))
theorem compLoopX_keep {g : Option (Nat × List D)} {tg : TgM} {tst : TM} {elt : EM} {env : En} {st : Sto} (hg : gOk g st) (ht : ∀ env1 k s, tst env1 st = .ok k s → s = st) (he : ∀ env1 k s, elt env1 st = .ok k s → s = st) : ∀ (ds acc : List D), compLoopX g tg tst elt env ds acc st = compLoop tg tst elt env ds acc st
  | [], acc => by rw [compLoopX, compLoop]; exact cif_pos hg
  | d :: ds, acc => by
    rw [compLoopX, cif_pos hg, compLoop]
    cases tg d env with
    | none => rfl
    | some env1 =>
      dsimp only
      cases h1 : tst env1 st with
      | bad => rfl
      | exc c fs s => rfl
      | ok k s1 =>
        obtain rfl := ht _ _ _ h1
        dsimp only
        cases k with
        | false => exact compLoopX_keep hg ht he ds acc
        | true =>
          rw [if_pos rfl, if_pos rfl]
          cases h2 : elt env1 s1 with
          | bad => rfl
          | exc c fs s => rfl
          | ok y s2 =>
            obtain rfl := he _ _ _ h2
            dsimp only
            by_cases hl : acc.length < LIM
            · rw [if_pos hl, if_pos hl]
              exact compLoopX_keep hg ht he ds _
            · rw [if_neg hl, if_neg hl]
section
variable {G : Gx} {tg iter elt : Expr} {ifs : List Expr} {scope : Scope} {mi : XM} {js vs : List Nat} {mt : TgM} {tst : TM} {me : EM}
/-- the loop, whatever is walked -/
theorem comp_coreX {W1 : Wd} {σ : L2.St} {env : En} {s1 : Sto} {ds : List D} {J : It} {gd : Option (Nat × List D)} {Q : VK} (hj : ∀ j ∈ js, j ∈ vs) {g : TG} {tt : TT} {te : TE}
    (hg : ∀ σ W env v d Q, RepE G.X.K G.ca G.xc W σ env → Rep G.X.K G.ca W v d → PostG G W σ env js (mt d env) Q → g v σ W.h Q)
    (ht : ∀ σ W env st Q, WOk G.X.K G.ca W st → RepE G.X.K G.ca G.xc W σ env → (∀ k s1, tst env st = .ok k s1 → ∀ W', Ext W W' → WOk G.X.K G.ca W' s1 → Q k W'.h) → (∃ k s1, tst env st = .ok k s1) → tt σ W.h Q)
    (he : ∀ σ W env st Q, WOk G.X.K G.ca W st → RepE G.X.K G.ca G.xc W σ env → (∀ d s1, me env st = .ok d s1 → ∀ v W', Ext W W' → WOk G.X.K G.ca W' s1 → Rep G.X.K G.ca W' v d → Q v W'.h) → (∃ d s1, me env st = .ok d s1) → te σ W.h Q)
    (w1 : WOk G.X.K G.ca W1 s1) (re0 : RepE G.X.K G.ca G.xc W1 σ env) (j1 : JOkX G.X.K G.ca W1 gd J ds) (p1 : PostL G W1 σ (compLoopX gd mt tst me (wipeE env vs) ds [] s1) Q) : tLc (fun _ _ R => R J W1.h) g tt te vs σ W1.h Q := by
  generalize hr0 : compLoopX gd mt tst me (wipeE env vs) ds [] s1 = r0 at p1
  intro Dl hD
  have re1 : RepE G.X.K G.ca G.xc W1 (L2.wipe σ vs) (wipeE env vs) := re0.wipe vs
  have hp0 : (W1.lay Dl (.lst []) hD).h Dl ≠ none := by
    show upd W1.h Dl (.lst []) Dl ≠ none
    rw [upd_same]; exact fun z => by cases z
  -- the world with the new list, owned
  have e0 := Wd.own_ext (W1.lay_ext (o := .lst []) hD) hD hp0
  refine ⟨fun i m H' => ∃ (W' : Wd) (st' : Sto) (acc : List D) (xs : List V), H' = W'.h ∧ m = ds.length - i ∧ i ≤ ds.length ∧ Ext W1 W' ∧ W'.av Dl ∧ Dl ∉ W'.g ∧ W'.h Dl = some (.lst xs) ∧ WOk G.X.K G.ca W' st' ∧ Reps G.X.K G.ca W' xs acc ∧
      compLoopX gd mt tst me (wipeE env vs) (ds.drop i) acc st' = r0,
    ⟨ds.length, (W1.lay Dl (.lst []) hD).own Dl hp0, s1, [], [], rfl, rfl, Nat.zero_le _, e0, .inr rfl, fun z => W1.trk Dl (W1.gav Dl z) hD, upd_same, w1.own hD hp0, .nil, hr0⟩, ?_⟩
  rintro i m H' ⟨W', st', acc, xs, rfl, rfl, hi', x', hv, ng, hh, w', r', eq⟩
  have nb0 : r0 ≠ .bad := fun z => by rw [z] at p1; exact p1
  have gk : gOk gd st' := Classical.byContradiction fun hn => nb0 (by
    rw [← eq]
    cases ds.drop i with
    | nil => rw [compLoopX]; exact cif_neg hn
    | cons a b => rw [compLoopX]; exact cif_neg hn)
  obtain ⟨jg, jst⟩ := j1 W' st' x'.kp w' gk
  cases hd : ds[i]? with
  | none =>
    have hl : ds.length ≤ i := List.getElem?_eq_none_iff.mp hd
    have ei : i = ds.length := Nat.le_antisymm hi' hl
    subst ei
    rw [List.drop_length, compLoopX, cif_pos gk] at eq
    rw [← eq] at p1
    exact .inl ⟨jst, p1 Dl xs W' x' hD hv ng hh w' r'⟩
  | some d =>
    have hl : i < ds.length := (List.getElem?_eq_some_iff.mp hd).1
    obtain ⟨go, yl⟩ := jg i d hd
    rw [drop_at hd, compLoopX, cif_pos gk] at eq
    refine .inr ⟨go, fun H2 => ∃ (W2 : Wd) (st2 : Sto) (acc2 : List D) (xs2 : List V), H2 = W2.h ∧ Ext W1 W2 ∧ W2.av Dl ∧ Dl ∉ W2.g ∧ W2.h Dl = some (.lst xs2) ∧ WOk G.X.K G.ca W2 st2 ∧ Reps G.X.K G.ca W2 xs2 acc2 ∧
        compLoopX gd mt tst me (wipeE env vs) (ds.drop (i + 1)) acc2 st2 = r0,
      fun H2 ⟨W2, st2, acc2, xs2, h1, h2, h3, h4, h5, h6, h7, h8⟩ => ⟨ds.length - (i + 1), by omega, W2, st2, acc2, xs2, h1, rfl, hl, h2, h3, h4, h5, h6, h7, h8⟩, fun x H2 y => ?_⟩
    obtain ⟨W2, rfl, e2, w2, r2⟩ := yl x H2 y
    have nb : r0 ≠ .bad := fun z => by rw [z] at p1; exact p1
    rw [← eq] at nb
    have rb : RepE G.X.K G.ca G.xc W2 (L2.wipe σ vs) (wipeE env vs) := (re1.mono x').mono e2
    refine hg _ W2 _ x d _ rb r2 ?_
    cases hm : mt d (wipeE env vs) with
    | none => rw [hm] at nb; exact absurd rfl nb
    | some env1 =>
      rw [hm] at eq nb
      dsimp only at eq nb
      intro σ1 df x1 re2
      refine ⟨wipe_dif hj df, ?_⟩
      cases hts : tst env1 st' with
      | bad => rw [hts] at nb; exact absurd rfl nb
      | exc c fs s2 => rw [hts] at nb; exact absurd rfl nb
      | ok k s2 =>
        rw [hts] at eq nb
        dsimp only at eq nb
        refine ht σ1 W2 env1 st' _ w2 re2 (fun k' s2' ek W3 e3 w3 => ?_) ⟨k, s2, hts⟩
        rw [hts] at ek
        cases ek
        have h3 : W3.h Dl = some (.lst xs) := (e3.own Dl (e2.av Dl hv) (e2.kp.nocell hv ng)).trans ((e2.own Dl hv ng).trans hh)
        cases k with
        | false =>
          rw [if_neg Bool.false_ne_true] at eq nb ⊢
          exact ⟨W3, s2, acc, xs, rfl, (x'.trans e2).trans e3, e3.av Dl (e2.av Dl hv), e3.kp.nocell (e2.av Dl hv) (e2.kp.nocell hv ng), h3, w3, (r'.mono e2).mono e3, eq⟩
        | true =>
          rw [if_pos rfl] at eq nb ⊢
          cases hel : me env1 s2 with
          | bad => rw [hel] at nb; exact absurd rfl nb
          | exc c fs s4 => rw [hel] at nb; exact absurd rfl nb
          | ok y2 s4 =>
            rw [hel] at eq nb
            dsimp only at eq nb
            refine he σ1 W3 env1 s2 _ w3 (re2.mono e3) (fun d' s4' ed v W4 e4 w4 r4 => ?_) ⟨y2, s4, hel⟩
            rw [hel] at ed
            cases ed
            have a3 := e3.av Dl (e2.av Dl hv)
            have g3 := e3.kp.nocell (e2.av Dl hv) (e2.kp.nocell hv ng)
            have a4 := e4.av Dl a3
            have g4 := e4.kp.nocell a3 g3
            have h4 : W4.h Dl = some (.lst xs) := (e4.own Dl a3 g3).trans h3
            by_cases hlen : acc.length < LIM
            · rw [if_pos hlen] at eq nb
              have hp4 : W4.h Dl ≠ none := by rw [h4]; exact fun z => by cases z
              have k4 := W4.wr_kp (o := .lst (xs ++ [v])) hp4 a4
              have r14 : Reps G.X.K G.ca W4 xs acc := ((r'.mono e2).mono e3).mono e4
              refine ⟨xs, h4, lim_lt (by rw [r14.length]; exact hlen), W4.wr Dl (.lst (xs ++ [v])) hp4, s4, acc ++ [y2], xs ++ [v], rfl, ?_, a4, g4, upd_same, w4.wr hp4 a4 g4, (r14.kp k4).append (.cons (r4.kp k4) .nil), eq⟩
              have e14 := ((x'.trans e2).trans e3).trans e4
              refine ⟨fun q o n h => k4.keep q o (fun z => ?_) (e14.keep q o n h), fun q h1 h2 => ?_, e14.av, e14.new, fun q h => e14.stay q (k4.stay q h), e14.pre⟩
              · rcases e14.new q z with z | z
                · exact n z
                · rw [h] at z; cases z
              · have nq : q ≠ Dl := fun z => by subst z; exact W1.trk q h1 hD
                show upd W4.h Dl _ q = W1.h q
                rw [upd_ne nq]
                exact e14.own q h1 h2
            · rw [if_neg hlen] at nb; exact absurd rfl nb
theorem rd_compX (hi : RIX G tg iter mi) (hj : ∀ j ∈ js, j ∈ vs) {g : TG} {tt : TT} {te : TE}
    (hg : ∀ σ W env v d Q, RepE G.X.K G.ca G.xc W σ env → Rep G.X.K G.ca W v d → PostG G W σ env js (mt d env) Q → g v σ W.h Q)
    (ht : ∀ σ W env st Q, WOk G.X.K G.ca W st → RepE G.X.K G.ca G.xc W σ env → (∀ k s1, tst env st = .ok k s1 → ∀ W', Ext W W' → WOk G.X.K G.ca W' s1 → Q k W'.h) → (∃ k s1, tst env st = .ok k s1) → tt σ W.h Q)
    (he : ∀ σ W env st Q, WOk G.X.K G.ca W st → RepE G.X.K G.ca G.xc W σ env → (∀ d s1, me env st = .ok d s1 → ∀ v W', Ext W W' → WOk G.X.K G.ca W' s1 → Rep G.X.K G.ca W' v d → Q v W'.h) → (∃ d s1, me env st = .ok d s1) → te σ W.h Q) :
    RdL G (tLc (QI G tg iter) g tt te vs) (lCompX mi mt tst me vs) := by
  intro σ W env st Q w re p
  refine hi σ W env st _ w re ?_
  unfold lCompX at p
  cases h : mi env st with
  | bad => rw [h] at p; exact p
  | exc c fs s1 => rw [h] at p; exact p
  | ok x s1 =>
    rw [h] at p
    obtain ⟨gd, ds⟩ := x
    exact fun J W1 e1 w1 j1 => comp_coreX hj hg ht he w1 (re.mono e1) j1 (PostL.mono e1 p)
theorem rdl_compX (hi : RIX G tg iter mi) (hg : ∀ s H0 C cl fp, RG (G.blk s H0 scope C cl fp) tg js mt) (ht : ∀ s H0 C cl fp, RTs (G.blk s H0 scope C cl fp) ifs tst) (he : ∀ s H0 C cl fp, RE (G.blk s H0 scope C cl fp) elt me) (hj : ∀ j ∈ js, j ∈ vs) :
    RdL G (tComp G tg iter elt ifs scope vs) (lCompX mi mt tst me vs) := by
  refine rd_compX hi hj (fun σ W env v d Q re r p s H0 C cl fp => hg s H0 C cl fp σ W env v d Q re r p) (fun σ W env st Q w re p ex s H0 C cl fp => ht s H0 C cl fp σ W env st Q w re ?_) (fun σ W env st Q w re p ex s H0 C cl fp => he s H0 C cl fp σ W env st Q w re ?_)
  · obtain ⟨k, s1, hk⟩ := ex
    rw [hk]
    exact p k s1 hk
  · obtain ⟨k, s1, hk⟩ := ex
    rw [hk]
    exact p k s1 hk
end
end Mi
/-! MiSuEq: == of plain data in an except suite. -/
namespace Mi
open PySem PySem.Spec PyProof.Rows L2
section
variable {G : Gx}
def eqU : D → D → M D := fun x y st => match x, y with
  | .int i, .int j => .ok (.bl (decide (i = j))) st
  | .str a, .str b => .ok (.bl (decide (a = b))) st
  | .bl a, .bl b => .ok (.bl (decide (a = b))) st
  | x, y => match pdT x st, pdT y st with
    | some a, some b => if SeqAt.shaped a = true ∧ SeqAt.shaped b = true then .ok (.bl (PyData.eqv a b)) st else .bad
    | _, _ => .bad
theorem cd_eqU (hu : G.X.A.units + 64 < cLine) : OpD G (compareOp .Eq) eqU := by
  intro σ W st x y dx dy Q wk rx ry p
  unfold eqU at p
  split at p
  · rename_i i j
    cases rx; cases ry
    exact qo_of op_eq ⟨rfl, by rw [dec_vi]; exact p _ W (Ext.refl W) wk (.bl _)⟩
  · rename_i i j
    cases rx; cases ry
    exact qo_of op_eq ⟨rfl, by rw [dec_vs]; exact p _ W (Ext.refl W) wk (.bl _)⟩
  · rename_i i j
    cases rx; cases ry
    exact qo_of op_eq ⟨rfl, by rw [dec_vb]; exact p _ W (Ext.refl W) wk (.bl _)⟩
  · split at p
    · rename_i a b ha hb
      by_cases hs : SeqAt.shaped a = true ∧ SeqAt.shaped b = true
      · rw [if_pos hs] at p
        exact qo_of (op_eqD hu) ⟨a, b, pdT_at wk rx ha, pdT_at wk ry hb, hs.1, hs.2, p _ W (Ext.refl W) wk (.bl _)⟩
      · rw [if_neg hs] at p; exact p.elim
    · exact p.elim
theorem su_un {k : Nat} {a : Addr} {oe : Obj} {cls : Value} {d : Option Addr} {pn : List (Addr × Obj)} (hr : Room k G.X.A) : (G.su a oe cls d pn).X.A.units + 64 < cLine := by
  have := hr.un
  show G.X.A.units + 64 < cLine
  omega
end
end Mi
/-! MiTxt: methods of texts, str(x), f-strings, <= of texts. -/
namespace Mi
open PySem PySem.Spec PyProof.Rows L2
section
variable {G : Gx}
theorem reps_strs {K : PySem.W.Frag} {ca : Nat → Addr} {W : Wd} : ∀ ys : List Str, Reps K ca W (ys.map V.str) (ys.map D.str)
  | [] => .nil
  | y :: ys => .cons (.str y) (reps_strs ys)
/-! ### methods -/
def splitD : D → List D → M D := fun x ds st => match x, ds with
  | .str a, [.str b] => if (b.length == 0) = false ∧ a.length + 2 ≤ LIM then .ok (.lst ((Txt.split a b).map .str)) st else .bad
  | _, _ => .bad
theorem md_split : MtD G "str.split" splitD := by
  intro σ W st x vs dx ds Q wk rx rv p
  unfold splitD at p
  split at p
  · rename_i a b
    cases rx
    cases rv with
    | cons r1 rr =>
      cases rr
      cases r1
      split at p
      · rename_i h
        exact ⟨_, mt_split, a, b, rfl, rfl, h.1, lim_le h.2, fun n hn => p (.ref n) _ (W.lay_ext (o := .lst ((Txt.split a b).map V.str)) hn) (wk.lay hn) (.lst (W.lay_nav hn) upd_same (reps_strs _))⟩
      · exact p.elim
  · exact p.elim
def txt0 (f : Str → Str) : D → List D → M D := fun x ds st => match x, ds with
  | .str a, [] => if a.length ≤ LIM then .ok (.str (f a)) st else .bad
  | _, _ => .bad
theorem md_txt0 {id : String} {f : Str → Str} (h : MtR G.X id (fun x xs H Q => ∃ a, x = .str a ∧ xs = [] ∧ a.length ≤ sizeLine ∧ Q (.str (f a)) H)) : MtD G id (txt0 f) := by
  intro σ W st x vs dx ds Q wk rx rv p
  unfold txt0 at p
  split at p
  · rename_i a
    cases rx
    cases rv
    split at p
    · rename_i hl
      exact ⟨_, h, a, rfl, rfl, lim_le hl, p _ W (Ext.refl W) wk (.str _)⟩
    · exact p.elim
  · exact p.elim
theorem md_strip : MtD G "str.strip" (txt0 Txt.strip) := md_txt0 mt_strip
theorem md_lstrip : MtD G "str.lstrip" (txt0 Txt.lstrip) := md_txt0 mt_lstrip
theorem md_rstrip : MtD G "str.rstrip" (txt0 Txt.rstrip) := md_txt0 mt_rstrip
def txtB (f : Str → Bool) : D → List D → M D := fun x ds st => match x, ds with
  | .str a, [] => .ok (.bl (f a)) st
  | _, _ => .bad
theorem md_isdigit : MtD G "str.isdigit" (txtB Txt.isdigit) := by
  intro σ W st x vs dx ds Q wk rx rv p
  unfold txtB at p
  split at p
  · rename_i a
    cases rx
    cases rv
    exact ⟨_, mt_isdigit, a, rfl, rfl, trivial, p _ W (Ext.refl W) wk (.bl _)⟩
  · exact p.elim
/-! ### str(x) -/
noncomputable def strD (ds : List D) : M D := fun st => match ds with
  | [.int i] => cif (i.natAbs.log2 < 1920) (.ok (.str (toString i)) st) .bad
  | [.str a] => .ok (.str a) st
  | _ => .bad
theorem kd_str : CallD G (.type "str") strD := by
  intro σ W st vs ds Q wk r p
  unfold strD at p
  split at p
  · rename_i i
    cases r with
    | cons r1 r2 =>
    cases r2
    cases r1
    unfold cif at p
    split at p
    · rename_i h
      exact qc_of call_str_int ⟨i, rfl, h, p _ W (Ext.refl W) wk (.str _)⟩
    · exact p.elim
  · rename_i a
    cases r with
    | cons r1 r2 =>
    cases r2
    cases r1
    exact qc_of SkE.call_str_str ⟨a, rfl, p _ W (Ext.refl W) wk (.str _)⟩
  · exact p.elim
/-! ### <= of texts -/
def leSt : D → D → M D := fun x y st => match x, y with
  | .str i, .str j => .ok (.bl (!decide (j.cps.toList < i.cps.toList))) st
  | _, _ => .bad
theorem cd_leSt : OpD G (compareOp .LtE) leSt := by
  intro σ W st x y dx dy Q wk rx ry p
  unfold leSt at p
  split at p
  · rename_i i j
    cases rx; cases ry
    exact qo_of op_le_str ⟨i, j, rfl, rfl, p _ W (Ext.refl W) wk (.bl _)⟩
  · exact p.elim
/-! ### f-strings -/
noncomputable def fmtD (d : D) : M D := fun st => match d with
  | .str y => if y.length ≤ LIM then .ok (.str y) st else .bad
  | .int i => cif (i.natAbs.log2 < 1920) (.ok (.str (toString i)) st) .bad
  | _ => .bad
noncomputable def eFmt (a : EM) : EM := fun env st => (a env st).bind fmtD
theorem re_fmt {e : Expr} {ma : EM} {pos : Pos} (h : RE G e ma) : RE G (.FormattedValue e (-1) none pos) (eFmt ma) := by
  intro σ W env st Q w re hp
  refine qe_of (pe_fmt pe_q) ?_
  refine h σ W env st _ w re (bindEE hp fun d s1 x W1 e1 w1 r1 p1 => ?_)
  unfold fmtD at p1
  split at p1
  · rename_i y
    cases r1
    split at p1
    · rename_i hl
      exact .inl ⟨y, rfl, lim_le hl, p1 _ W1 (Ext.refl W1) w1 (.str _)⟩
    · exact p1.elim
  · rename_i i
    cases r1
    unfold cif at p1
    split at p1
    · rename_i hl
      exact .inr ⟨i, rfl, hl, p1 _ W1 (Ext.refl W1) w1 (.str _)⟩
    · exact p1.elim
  · exact p1.elim
/-- the parts of an f-string, one behind the other -/
def kJs (k : Str → M D) (acc : Str) (d : D) : M D := fun st => match d with
  | .str y => if (acc ++ y).length ≤ LIM then k (acc ++ y) st else .bad
  | _ => .bad
def jsM (env : En) : List EM → Str → M D
  | [], acc => fun st => .ok (.str acc) st
  | m :: ms, acc => fun st => (m env st).bind (kJs (jsM env ms) acc)
def eJs (ms : List EM) : EM := fun env st => jsM env ms Str.empty st
inductive RJ (G : Gx) : List Expr → List EM → Prop
  | nil : RJ G [] []
  | cons {e : Expr} {m : EM} {es : List Expr} {ms : List EM} (h : RE G e m) (r : RJ G es ms) : RJ G (e :: es) (m :: ms)
theorem pj_q : ∀ {es : List Expr} {ms : List EM}, RJ G es ms → PJ G.X es (es.map fun e => QE G e)
  | _, _, .nil => .nil
  | _, _, .cons h r => .cons pe_q (pj_q r)
theorem js_ok {σ : L2.St} {env : En} {Q : VK} : ∀ {es : List Expr} {ms : List EM}, RJ G es ms → ∀ (acc : Str) (W : Wd) (st : Sto), WOk G.X.K G.ca W st → RepE G.X.K G.ca G.xc W σ env → Post G W σ (jsM env ms acc st) Q → tJs (es.map fun e => QE G e) acc σ W.h fun out H1 => Q (.str out) H1
  | _, _, .nil, acc, W, st, wk, re, p => p _ W (Ext.refl W) wk (.str _)
  | _, _, .cons (e := e) (m := m) (es := es) (ms := ms) h r, acc, W, st, wk, re, p => by
    refine h σ W env st _ wk re (bindEE p fun d s1 x W1 e1 w1 r1 p1 => ?_)
    unfold kJs at p1
    split at p1
    · rename_i y
      cases r1
      split at p1
      · rename_i hl
        exact ⟨y, rfl, lim_le hl, js_ok r _ W1 s1 w1 (re.mono e1) p1⟩
      · exact p1.elim
    · exact p1.elim
theorem re_joined {v1 v2 : Expr} {rest : List Expr} {ms : List EM} {pos : Pos} (h : RJ G (v1 :: v2 :: rest) ms) : RE G (.JoinedStr (v1 :: v2 :: rest) pos) (eJs ms) := by
  intro σ W env st Q wk re p
  exact qe_of (pe_joined (pj_q h)) (js_ok h _ W st wk re p)
theorem re_joined1 {e : Expr} {m : EM} {pos : Pos} (h : RE G e m) : RE G (.JoinedStr [e] pos) m := by
  intro σ W env st Q wk re p
  exact qe_of (pe_joined1 pe_q) (h σ W env st Q wk re p)
end
end Mi
/-! MiUnp: a, *b = a list. -/
namespace Mi
open PySem PySem.Spec PyProof.Rows L2
section
variable {prog : Program} {w : World} {A : Around} {E : Value → Shared → Prop} {s : Shared}
theorem walk_li {I l : Addr} {items : Array Value} (k : Nat) (ne : l ≠ I) (hh : A.handled = none) : WalksS prog w A I [I, l] [I] (fun a b => a = b) (items.size - k) (fun i v => items[k + i]? = some v) (fun i s => s.heap.IsListIter I l (k + i) ∧ s.heap.IsList l items) where
  sub := by simp
  grefl := fun _ => rfl
  gtrans := fun _ _ _ a b => a.trans b
  frame := fun i s h' tk hs _ hb => ⟨by
    obtain ⟨⟨o, h1, h2⟩, _⟩ := hs
    exact ⟨o, hb I (by simp) o h1, h2⟩, by
    obtain ⟨_, ⟨o, h1, h2⟩⟩ := hs
    exact ⟨o, hb l (by simp) o h1, h2⟩⟩
  item := fun i s Q E hi hs hQ => by
    obtain ⟨hit, hl⟩ := hs
    have hx : items[k + i]? = some items[k + i] := by rw [Array.getElem?_eq_getElem (by omega)]
    refine wpAny_pyNext_list_item hit hl hx fun h' hit' hs' => hQ _ _ hx ⟨by rw [Nat.add_assoc] at hit'; exact hit', hl.extBut hs'.extBut ne⟩ ⟨fun b o hb e => ?_, rfl, rfl, rfl, Nat.le_refl _⟩
    exact hs'.extBut b o (fun z => hb (by rw [z]; simp)) e
  done := fun s Q E hs hQ => by
    obtain ⟨hit, hl⟩ := hs
    refine wpAny_pyNext_list_end hh hit hl (by rw [Array.getElem?_eq_none]; omega) fun h' he => hQ _ ⟨fun b o hb e => ?_, rfl, rfl, rfl, Nat.le_refl _⟩
    exact he b o (fun z => hb (by rw [z]; simp)) e
  self := fun i s Q E hs h => wpAny_pyIter_listiter hs.1 h
theorem items_drop {items acc : Array Value} {k : Nat} (h : ItemsOf (fun i v => items[k + i]? = some v) acc (items.size - k)) : acc.toList = items.toList.drop k := by
  obtain ⟨h1, h2⟩ := h
  apply List.ext_getElem?
  intro j
  rw [List.getElem?_drop, Array.getElem?_toList, Array.getElem?_toList]
  by_cases hj : j < acc.size
  · have e := h2 j acc[j] (by rw [Array.getElem?_eq_getElem hj])
    rw [e, Array.getElem?_eq_getElem hj]
  · rw [Array.getElem?_eq_none (by omega), Array.getElem?_eq_none (by omega)]
theorem un_star {l : Addr} {items : Array Value} {Q : List Value → Shared → Prop} (hh : A.handled = none) (hl : s.heap.IsList l items) (h1 : 1 ≤ items.size) (hz : items.size ≤ sizeLine)
    (hQ : ∀ (h' : Heap) (tk : Nat), (∀ b o, s.heap.get? b = some o → h'.get? b = some o) → Q (items.toList.take 1 ++ [.ref h'.objs.size]) { s with heap := h'.push { cls := .type "list", data := .seq (items.toList.drop 1).toArray }, toks := tk }) :
    wpAny (model prog w) A (unpackItems (.ref l) 2 (some 1)) Q E s := by
  have hlt : l ≠ s.heap.objs.size := by obtain ⟨o, ho, _⟩ := hl; exact Nat.ne_of_lt (Heap.lt_size ho)
  unfold unpackItems
  refine wpAny_bind ?_
  unfold notIterableAtAll
  refine wpAny_bind (wpAny_specialOf hl.typeIs slot_list_iter.lookup ?_)
  refine wpAny_pure ?_
  simp only [Bool.false_eq_true, if_false]
  refine wpAny_bind (wpAny_holding (wpAny_pyIter_list hl ?_))
  refine wpAny_bind (wpAny_holding (PySem.W.kun_draw hlt 1 0 _ _ ⟨_, Heap.get?_push_size _ rfl, rfl, rfl⟩ (hl.push _) (by omega) fun h₁ hit₁ hs₁ => ?_))
  have hl₁ : h₁.IsList l items := (hl.push _).extBut hs₁.extBut hlt
  have len1 : (List.take 1 (List.drop 0 items.toList)).length = 1 := by
    rw [List.drop_zero, List.length_take, Array.length_toList]; omega
  rw [if_neg (by rw [len1]; decide)]
  have szI : s.heap.objs.size < h₁.objs.size := by
    obtain ⟨o, ho, _⟩ := hit₁
    exact Heap.lt_size ho
  have szl : l < h₁.objs.size := by
    obtain ⟨o, ho, _⟩ := hl₁
    exact Heap.lt_size ho
  have hin : A.in1.handled = none := hh
  refine wpAny_bind (wpAny_holding (wpAny_collect_iter (T := "list_iterator") (.inr (.inr (.inl rfl))) (walk_li (A := A.in1) (I := s.heap.objs.size) (l := l) (items := items) 1 hlt hin) (fun i s' hs => ?_) ⟨hit₁, hl₁⟩ (fun b hb => ?_) (by simp) (fun s' acc hm hacc => ?_) (by omega)))
  · obtain ⟨⟨o, h1, h2, _⟩, _⟩ := hs
    exact ⟨o, h1, h2⟩
  · rcases List.mem_cons.mp hb with e | e
    · rw [e]; exact szI
    · rw [List.mem_singleton.mp e]; exact szl
  · have ea := items_drop hacc
    obtain ⟨m1, m2, m3, m4, m5⟩ := hm
    obtain ⟨hp', g', d', tk', os'⟩ := s'
    obtain rfl : s.gens = g' := m2
    obtain rfl : d' = s.drawn := m3
    obtain rfl : os' = s.os := m4
    rw [ea]
    rw [if_neg (by omega)]
    have e0 : (List.drop 1 items.toList).length - (2 - 1 - 1) = (List.drop 1 items.toList).length := by omega
    rw [e0, List.take_length, List.drop_length, List.drop_zero]
    refine wpAny_bind (wpAny_newList ?_ (by rw [List.length_drop, Array.length_toList]; omega))
    refine wpAny_pure ?_
    rw [List.append_nil]
    refine hQ hp' tk' fun b o hb => ?_
    have nb : b ≠ s.heap.objs.size := Nat.ne_of_lt (Heap.lt_size hb)
    exact m1 b o (by simpa using nb) (hs₁.extBut b o nb (Heap.get?_push_of_some _ hb))
end
section
variable {X : Cx} {pos : Pos}
def gStar (K : PySem.W.Frag) (t : TGs) : TG := fun v σ H Q => ∃ a x xs, v = .ref a ∧ SqL K H a (x :: xs) ∧ ∀ q, H q = none → t [x, .ref q] σ (upd H q (.lst xs)) Q
theorem pg_star {t1 t2 : Expr} {sp : Pos} {k : Nat} {t : TGs} (hc : X.calm = true) (h : PGs X [t1, t2] t)
    (hm : (assignEach [t1, .Starred t2 sp] X.env).map (·.2) = (assignEach [t1, t2] X.env).map (·.2) := by rfl) (hn : (assignEach [t1, .Starred t2 sp] X.env).length = 2 := by rfl) (hst : (assignEach [t1, .Starred t2 sp] X.env).findIdx? (·.1) = some 1 := by rfl) :
    PG X (.Tuple [t1, .Starred t2 sp] k pos) (gStar X.K t) := by
  refine ⟨fun pins s σ H v u Q I r hw => ?_⟩
  obtain ⟨a, x, xs, e1, hq, hw⟩ := hw
  subst e1
  cases r
  obtain ⟨its, rv, pl, hz⟩ := I.list hq
  have hl' : s.heap.IsList a its.toArray := by
    obtain ⟨o, m, e, c, d, q⟩ := pl
    exact ⟨o, e, c, m, q⟩
  cases rv with
  | @cons _ y _ ys r1 rr =>
  rw [PyProof.Rows.assign_Tuple]
  refine wpAny_bind (wpAny_standAt ?_)
  unfold unpack
  rw [hn, hst, hm]
  refine wpAny_bind (wpAny_holding (un_star (I.ok.hd hc) hl' (by simp) (by
    have := rr.length
    have hz' : xs.length + 1 ≤ sizeLine := by simpa using hz
    rw [List.size_toArray, List.length_cons]
    omega) fun h' tk hx => ?_))
  have I1 : Inv X pins σ H { s with heap := h', toks := tk } := I.kept hx
  have hp := I1.hok.fresh (Nat.le_refl _)
  have I2 : Inv X pins σ (upd H h'.objs.size (.lst xs)) { s with heap := h'.push { cls := .type "list", data := .seq ys.toArray }, toks := tk } := I1.laid (fun b u q => Heap.get?_push_of_some _ q) (Nat.le_refl _) ⟨by
      have := rr.length
      have hz' : xs.length + 1 ≤ sizeLine := by simpa using hz
      omega, ys, _, rr, Heap.get?_push_size _ rfl⟩
  exact h.run pins _ σ _ [x, .ref h'.objs.size] [y, .ref h'.objs.size] Q I2 (.cons r1 (.cons rfl .nil)) (hw _ hp)
theorem pgs_any {ts : List Expr} : PGs X ts (fun vs σ H Q => ∃ t, PGs X ts t ∧ t vs σ H Q) := ⟨fun pins s σ H vs us Q I r h => by
  obtain ⟨t, h1, h2⟩ := h
  exact h1.run pins s σ H vs us Q I r h2⟩
end
/-! ### a, *b = e -/
def kUnpS (m1 m2 : TgM) (env : En) (d : D) (s : Sto) : SRes := match d with
  | .lst (y :: ys) => (match gTs [m1, m2] [y, .lst ys] env with
    | some env' => .nx env' s
    | none => .bad)
  | _ => .bad
def sUnpS (m1 m2 : TgM) (a : EM) : SM := fun env st => (a env st).go env (kUnpS m1 m2 env)
section
variable {G : Gx} {e t1 t2 : Expr} {pos tpos sp : Pos} {k : Nat} {js : List Nat} {m1 m2 : TgM} {ma : EM}
theorem rs_unpS (hc : G.X.calm = true) (ha : RE G e ma) (hg : RGs G [t1, t2] js [m1, m2]) (hs : swapsWithSole [.Tuple [t1, .Starred t2 sp] k tpos] e pos.line G.X.env = pure false := by rfl) (hw : swappedStores [.Tuple [t1, .Starred t2 sp] k tpos] e G.X.env = pure none := by rfl)
    (h1 : (assignEach [.Tuple [t1, .Starred t2 sp] k tpos] G.X.env).map (·.2) = [assign (.Tuple [t1, .Starred t2 sp] k tpos) G.X.env] := by rfl)
    (hm : (assignEach [t1, .Starred t2 sp] G.X.env).map (·.2) = (assignEach [t1, t2] G.X.env).map (·.2) := by rfl) (hn : (assignEach [t1, .Starred t2 sp] G.X.env).length = 2 := by rfl) (hst : (assignEach [t1, .Starred t2 sp] G.X.env).findIdx? (·.1) = some 1 := by rfl) :
    RS G (.Assign [.Tuple [t1, .Starred t2 sp] k tpos] e pos) (sUnpS m1 m2 ma) := by
  intro σ W env st Dn w re p
  refine qs_of (ps_asg pe_q pg_q hs hw h1) ?_
  refine ha σ W env st _ w re (bindES re p fun d s1 v W1 e1 w1 r1 re1 p1 => ?_)
  show QG G _ v σ W1.h Dn.nx
  unfold kUnpS at p1
  split at p1
  · rename_i y ys
    obtain ⟨q, vs, rfl, sq, rr⟩ := seqOf_at (ds := y :: ys) w1 r1 rfl
    cases rr with
    | @cons x _ xs _ rx rxs =>
    refine qg_of (pg_star hc pgs_any hm hn hst) ⟨q, x, xs, rfl, sq, fun q2 hq2 => ?_⟩
    have x2 := W1.lay_ext (o := .lst xs) hq2
    have p2 := PostS.mono (x2.s σ env) p1
    refine hg σ (W1.lay q2 (.lst xs) hq2) env [x, .ref q2] [y, .lst ys] Dn.nx (re1.mono x2) (.cons (rx.mono x2) (.cons (.lst (W1.lay_nav hq2) upd_same (rxs.mono x2)) .nil)) ?_
    cases h : gTs [m1, m2] [y, .lst ys] env with
    | none => rw [h] at p2; exact p2.elim
    | some env' => rw [h] at p2; exact fun σ' _ x re' => p2 σ' _ x (w1.lay hq2) re'
  · exact p1.elim
end
end Mi
/-! MiStep: x[::2], x[1::2]. -/
namespace Mi
open PySem PySem.Spec PyProof.Rows L2
def every2 {α : Type} : List α → List α
  | [] => []
  | [a] => [a]
  | a :: _ :: r => a :: every2 r
theorem every2_len {α : Type} : ∀ l : List α, (every2 l).length ≤ l.length
  | [] => Nat.le_refl _
  | [a] => Nat.le_refl _
  | a :: b :: r => by
    have := every2_len r
    rw [every2, List.length_cons, List.length_cons, List.length_cons]
    omega
theorem every2_pick {α : Type} : ∀ (l pre : List α), ((List.range ((l.length + 1) / 2)).map fun k => pre.length + 2 * k).filterMap (fun (i : Nat) => (pre ++ l)[i]?) = every2 l
  | [], pre => by simp [every2]
  | [a], pre => by simp [every2, List.range_succ]
  | a :: b :: r, pre => by
    have ih := every2_pick r (pre ++ [a, b])
    have e1 : ((a :: b :: r).length + 1) / 2 = (r.length + 1) / 2 + 1 := by simp only [List.length_cons]; omega
    have e2 : (fun (i : Nat) => (pre ++ [a, b] ++ r)[i]?) = fun (i : Nat) => (pre ++ a :: b :: r)[i]? := by
      funext i
      simp
    rw [e1, List.range_succ_eq_map, List.map_cons, List.map_map, List.filterMap_cons]
    have e3 : (pre ++ a :: b :: r)[pre.length + 2 * 0]? = some a := by simp
    rw [e3, every2]
    dsimp only
    congr 1
    rw [← ih, e2]
    congr 1
    apply List.map_congr_left
    intro k _
    simp only [Function.comp, List.length_append, List.length_cons, List.length_nil]
    omega
theorem step_range (s n : Nat) : sliceRange (s : Int) (n : Int) 2 = (List.range ((n - s + 1) / 2)).map fun k => s + 2 * k := by
  unfold sliceRange
  have h1 : (2 : Int) > 0 := by decide
  simp only [h1, if_true]
  by_cases h : (s : Int) < (n : Int)
  · have e : (((n : Int) - s + 2 - 1) / 2).toNat = (n - s + 1) / 2 := by omega
    simp only [h, if_true, e]
    apply List.map_congr_left
    intro k _
    omega
  · have e : (n - s + 1) / 2 = 0 := by omega
    simp only [h, if_false, e]
    rfl
theorem pick2 (items : Array Value) (lo : Option Int) (s : Nat) (hs : (sliceBounds lo none (some 2) items.size) = ((s : Int), (items.size : Int), 2)) (hle : s ≤ items.size) : slicePick items lo none (some 2) = (every2 (items.toList.drop s)).toArray := by
  unfold slicePick
  rw [hs]
  show ((sliceRange (s : Int) (items.size : Int) 2).filterMap (items[·]?)).toArray = _
  rw [step_range]
  have h := every2_pick (items.toList.drop s) (items.toList.take s)
  have l1 : (items.toList.take s).length = s := by rw [List.length_take, Array.length_toList]; omega
  have l2 : (items.toList.drop s).length = items.size - s := by rw [List.length_drop, Array.length_toList]
  rw [l1, l2, List.take_append_drop] at h
  rw [← h]
  congr 2
  funext i
  rw [Array.getElem?_toList]
theorem bounds0 (n : Nat) : sliceBounds none none (some 2) n = (((0 : Nat) : Int), (n : Int), 2) := by
  first
  | rfl
  | simp [sliceBounds]
theorem bounds1 (n : Nat) : sliceBounds (some 1) none (some 2) n = (((min 1 n : Nat) : Int), (n : Int), 2) := by
  simp only [sliceBounds, Option.getD]
  refine Prod.ext ?_ (Prod.ext ?_ rfl)
  · simp
    omega
  · simp
theorem vals_drop {vs : List V} {us : List Value} (r : Vals vs us) : ∀ n, Vals (vs.drop n) (us.drop n) := by
  induction r with
  | nil => intro n; simp only [List.drop_nil]; exact .nil
  | cons h t ih => intro n; cases n with
    | zero => exact .cons h t
    | succ n => exact ih n
theorem vals_every : ∀ {vs : List V} {us : List Value}, Vals vs us → Vals (every2 vs) (every2 us)
  | _, _, .nil => .nil
  | _, _, .cons h .nil => .cons h .nil
  | _, _, .cons h (.cons _ t) => .cons h (vals_every t)
section
variable {K : PySem.W.Frag} {ca : Nat → Addr} {W : Wd}
theorem reps_drop {vs : List V} {ds : List D} (r : Reps K ca W vs ds) : ∀ n, Reps K ca W (vs.drop n) (ds.drop n)
  | 0 => r
  | n + 1 => match r with
    | .nil => .nil
    | .cons _ t => reps_drop t n
theorem reps_every : ∀ {vs : List V} {ds : List D}, Reps K ca W vs ds → Reps K ca W (every2 vs) (every2 ds)
  | _, _, .nil => .nil
  | _, _, .cons h .nil => .cons h .nil
  | _, _, .cons h (.cons _ t) => .cons h (reps_every t)
end
def ev2D (o : Nat) (x : D) : M D := fun st => match seqOf x st with
  | some xs => .ok (.lst (every2 (xs.drop o))) st
  | none => .bad
section
variable {G : Gx} {e : Expr} {le : Option Expr} {ma : EM} {pos p1 p3 : Pos} {j : Nat}
theorem re_step2 {o : Nat} {lo : Option Int} {tl : TO} (ha : RE G e ma) (hlo : PO G.X le tl) (hl0 : ∀ σ H Q, Q lo H → tl σ H Q)
    (hb : ∀ items : Array Value, slicePick items lo none (some 2) = (every2 (items.toList.drop o)).toArray)
    (hso : ∀ a b, subscripted (.Slice le none (some (.Constant (.int 2) j p1)) p3) false a b = operate [a, b] (getItem a b) := by intro _ _; with_unfolding_all rfl) : RE G (.Subscript e (.Slice le none (some (.Constant (.int 2) j p1)) p3) pos) (eUn (ev2D o) ma) := by
  intro σ W env st Q w re hp pins s I
  have hst : PO G.X (some (.Constant (.int 2) j p1)) (tPart (tC (.int 2))) := po_some pe_int
  refine Subscript_ (thn (ha σ W env st (fun x H => ∃ (W1 : Wd) (s1 : Sto) (d : D), H = W1.h ∧ WOk G.X.K G.ca W1 s1 ∧ Rep G.X.K G.ca W1 x d ∧ Post G W1 σ (ev2D o d s1) Q) w re (bindEE hp fun d s1 x W1 e1 w1 r1 q1 => ⟨W1, s1, d, rfl, w1, r1, q1⟩) pins s I) fun v s1 hv => ?_)
  obtain ⟨x, H1, I1, r1, W1, st1, d, rfl, w1, rd, q1⟩ := hv
  refine wpAny_Slice (thn (hlo.run pins s1 σ W1.h (fun o H2 => o = lo ∧ H2 = W1.h) I1 (hl0 _ _ _ ⟨rfl, rfl⟩)) fun vl s2 hvl => ?_)
  obtain ⟨l, H2, I2, pl, el, e2⟩ := hvl
  subst el e2
  refine thn (po_none.run pins s2 σ W1.h (fun o H3 => o = none ∧ H3 = W1.h) I2 ⟨rfl, rfl⟩) fun vu s3 hvu => ?_
  obtain ⟨u, H3, I3, pu, eu, e3⟩ := hvu
  subst eu e3
  refine thn (hst.run pins s3 σ W1.h (fun o H4 => o = some 2 ∧ H4 = W1.h) I3 ⟨2, rfl, rfl, rfl⟩) fun vs s4 hvs => ?_
  obtain ⟨so, H4, I4, ps, eo, e4⟩ := hvs
  subst eo e4
  have I5 : Inv G.X pins σ W1.h { s4 with heap := s4.heap.push { cls := .type "slice", data := .fields #[vl, vu, vs] } } := I4.kept (t' := s4.toks) fun b ob q => Heap.get?_push_of_some _ q
  show wpAny (model G.X.prog G.X.w) G.X.A (subscriptTail e (.Slice le none (some (.Constant (.int 2) j p1)) p3) v (.ref s4.heap.objs.size)) (EP G.X pins σ Q) G.X.xe { s4 with heap := s4.heap.push { cls := .type "slice", data := .fields #[vl, vu, vs] } }
  unfold ev2D at q1
  cases hs : seqOf d st1 with
  | none => rw [hs] at q1; exact q1.elim
  | some xs =>
    rw [hs] at q1
    obtain ⟨q, ys, rfl, sq, r2⟩ := seqOf_at w1 rd hs
    cases r1
    obtain ⟨its, r, ht, hz⟩ := I5.list sq
    have hlen := r.length
    refine tail_any (ops := [.ref q, .ref s4.heap.objs.size]) ht.isList.typeIs (PySem.slot_list_getitem.lookup) ?_ (hso _ _)
    refine wpAny_getItem_list_slice ht.isList (Heap.IsSliceOf.new _ vl vu vs) pl pu ps (by decide) ?_ (by rw [List.size_toArray]; omega)
    rw [hb]
    have hn := I5.hok.fresh (Nat.le_refl _)
    have x1 := W1.lay_ext (o := .lst (every2 (ys.drop o))) hn
    exact ⟨.ref _, _, I5.laid (t' := s4.toks) (o := .lst (every2 (ys.drop o))) (fun b ob q => Heap.get?_push_of_some _ q) (Nat.le_refl _) ⟨by
        have := every2_len (ys.drop o)
        rw [List.length_drop] at this
        omega, _, 0, vals_every (vals_drop r o), Heap.get?_push_size _ rfl⟩, rfl,
      q1 (.ref _) (W1.lay _ (.lst (every2 (ys.drop o))) hn) x1 (w1.lay hn) (.lst (W1.lay_nav hn) upd_same ((reps_every (reps_drop r2 o)).mono x1))⟩
theorem pick_0 (items : Array Value) : slicePick items none none (some 2) = (every2 (items.toList.drop 0)).toArray := pick2 items none 0 (bounds0 _) (Nat.zero_le _)
theorem pick_1 (items : Array Value) : slicePick items (some 1) none (some 2) = (every2 (items.toList.drop 1)).toArray := by
  rw [pick2 items (some 1) (min 1 items.size) (bounds1 _) (by omega)]
  by_cases h : items.size = 0
  · have : items.toList = [] := by
      apply List.length_eq_zero_iff.mp
      rw [Array.length_toList]; exact h
    rw [this]
    simp
  · rw [show min 1 items.size = 1 by omega]
end
end Mi
/-! MiKw2: f(e, .., k = v, ..), keywords in any order, some left out. -/
namespace Mi
open PySem PySem.Spec PyProof.Rows L2 ClX
/-- the keyword parameters' values: (true, i) the i-th given one, (false, i) the i-th default -/
def pickL {α : Type} : List (Bool × Nat) → List α → List α → List α
  | [], _, _ => []
  | (b, i) :: r, ws, mv => match (if b then ws[i]? else mv[i]?) with
    | some x => x :: pickL r ws mv
    | none => []
theorem vals_get {vs : List V} {us : List Value} (r : Vals vs us) : ∀ i : Nat, (vs[i]? = none ∧ us[i]? = none) ∨ ∃ v u, vs[i]? = some v ∧ us[i]? = some u ∧ RelV v u := by
  induction r with
  | nil => intro i; exact .inl ⟨by simp, by simp⟩
  | cons h t ih => intro i; cases i with
    | zero => exact .inr ⟨_, _, rfl, rfl, h⟩
    | succ i => exact ih i
theorem vals_pick {vs dvs : List V} {us mv : List Value} (r : Vals vs us) (q : Vals dvs mv) : ∀ spec, Vals (pickL spec vs dvs) (pickL spec us mv)
  | [] => .nil
  | (b, i) :: sp => by
    have ih := vals_pick r q sp
    unfold pickL
    cases b with
    | true =>
      rcases vals_get r i with ⟨h1, h2⟩ | ⟨v, u, h1, h2, h3⟩
      · simp only [if_true, h1, h2]; exact .nil
      · simp only [if_true, h1, h2]; exact .cons h3 ih
    | false =>
      rcases vals_get q i with ⟨h1, h2⟩ | ⟨v, u, h1, h2, h3⟩
      · simp only [Bool.false_eq_true, if_false, h1, h2]; exact .nil
      · simp only [Bool.false_eq_true, if_false, h1, h2]; exact .cons h3 ih
section
variable {K : PySem.W.Frag} {ca : Nat → Addr} {W : Wd}
theorem reps_get : ∀ {vs : List V} {ds : List D}, Reps K ca W vs ds → ∀ i : Nat, (vs[i]? = none ∧ ds[i]? = none) ∨ ∃ v d, vs[i]? = some v ∧ ds[i]? = some d ∧ Rep K ca W v d
  | _, _, .nil, i => .inl ⟨by simp, by simp⟩
  | _, _, .cons h _, 0 => .inr ⟨_, _, rfl, rfl, h⟩
  | _, _, .cons _ t, i + 1 => reps_get t i
theorem reps_pick {vs dvs : List V} {ds dds : List D} (r : Reps K ca W vs ds) (q : Reps K ca W dvs dds) : ∀ spec, Reps K ca W (pickL spec vs dvs) (pickL spec ds dds)
  | [] => .nil
  | (b, i) :: sp => by
    have ih := reps_pick r q sp
    unfold pickL
    cases b with
    | true =>
      rcases reps_get r i with ⟨h1, h2⟩ | ⟨v, u, h1, h2, h3⟩
      · simp only [if_true, h1, h2]; exact .nil
      · simp only [if_true, h1, h2]; exact .cons h3 ih
    | false =>
      rcases reps_get q i with ⟨h1, h2⟩ | ⟨v, u, h1, h2, h3⟩
      · simp only [Bool.false_eq_true, if_false, h1, h2]; exact .nil
      · simp only [Bool.false_eq_true, if_false, h1, h2]; exact .cons h3 ih
end
/-- what binds n positional values and the keywords ks, the rest by defaults -/
def BKs (K : PySem.W.Frag) (fd : FuncData) (ps : List Str) (n : Nat) (ks : List Str) (spec : List (Bool × Nat)) (dvs : List V) : Prop :=
  ∃ mv, Vals dvs mv ∧ ∀ (s : Shared) (us ws : List Value), K.In s.heap → us.length = n → ws.length = ks.length → BindsTo s fd ⟨us, ks.zip ws⟩ (ps.zip (us ++ pickL spec ws mv))
theorem bks_all {K : PySem.W.Frag} {x qual : Str} {st : Stmt} {f : Addr} {fd : FuncData} {ps ks : List Str} {n : Nat} {spec : List (Bool × Nat)} (F : FD K x qual st [] f fd)
    (h : ∀ (kV doc pm : Value) (an : Option Addr) (cdv ct : Value) (us ws : List Value), us.length = n → ws.length = ks.length → bindArgs (PySem.W.fnOf x qual (defArgs st) (defBody st) (defScope st) .none kV doc pm an cdv ct) ⟨us, ks.zip ws⟩ = pure (ps.zip (us ++ pickL spec ws []))) : BKs K fd ps n ks spec [] := by
  obtain ⟨oc, od, dV, kV, doc, pm, an, cdv, ct, osl, rfl, lk, hcd, hD, _⟩ := F.ex
  rcases hD with ⟨_, rfl⟩ | ⟨e, _⟩
  · exact ⟨[], .nil, fun s us ws _ h1 h2 => .of_eq (h kV doc pm an cdv ct us ws h1 h2)⟩
  · exact absurd rfl e
theorem bks_some {K : PySem.W.Frag} {x qual : Str} {st : Stmt} {om : List (Str × V)} {f : Addr} {fd : FuncData} {ps ks : List Str} {n : Nat} {spec : List (Bool × Nat)} (F : FDk K x qual st om f fd) (hk : om ≠ [])
    (h : ∀ (D : Addr) (doc pm : Value) (an : Option Addr) (cdv ct : Value) (us ws mv : List Value), us.length = n → ws.length = ks.length → mv.length = om.length → KwChain D ((om.map (·.1)).zip mv) (bindArgs (PySem.W.fnOf x qual (defArgs st) (defBody st) (defScope st) .none (.ref D) doc pm an cdv ct) ⟨us, ks.zip ws⟩) (ps.zip (us ++ pickL spec ws mv))) :
    BKs K fd ps n ks spec (om.map (·.2)) := by
  obtain ⟨oc, od, dV, kV, doc, pm, an, cdv, ct, osl, rfl, lk, hcd, hD, hK⟩ := F.ex
  rcases hD with ⟨_, rfl⟩ | ⟨e, _⟩
  · rcases hK with e | ⟨D, rfl, hq⟩
    · exact absurd e hk
    · obtain ⟨mv, hl, rk, hks⟩ := kwd_vals (ms := om) fun q hm => hq q hm
      exact ⟨mv, rk, fun s us ws X h1 h2 => BindsTo.of_looks fun M => KwChain.looks X hks (h D doc pm an cdv ct us ws mv h1 h2 hl)⟩
  · exact absurd rfl e
theorem fdk_sub {K : PySem.W.Frag} {x qual : Str} {st : Stmt} {all om : List (Str × V)} {f : Addr} {fd : FuncData} (F : FDk K x qual st all f fd) (h : ∀ q ∈ om, q ∈ all) : FDk K x qual st om f fd := by
  obtain ⟨⟨oc, od, dV, kV, doc, pm, an, cdv, ct, osl, e, l, c, d, hK⟩, kp⟩ := F
  refine ⟨⟨oc, od, dV, kV, doc, pm, an, cdv, ct, osl, e, l, c, d, ?_⟩, kp⟩
  rcases hK with e | ⟨D, e, hq⟩
  · left
    cases om with
    | nil => rfl
    | cons q r =>
      have := h q (List.mem_cons_self ..)
      rw [e] at this
      cases this
  · exact .inr ⟨D, e, fun q hm => hq q (h q hm)⟩
def mCallKs (j i n : Nat) (spec : List (Bool × Nat)) (dds : List D) (m : List D → M D) : List D → List D → M D := fun ds es st => if (ds.length = j ∧ es.length = i) ∧ (ds ++ pickL spec es dds).length = n then m (ds ++ pickL spec es dds) st else .bad
section
variable {G : Gx} {k n : Nat} {f : Addr} {fd : FuncData} {ps ks : List Str} {m : List D → M D} {p pos : Pos} {e : Expr} {es : List Expr} {aa ka : AM} {x : Str} {spec : List (Bool × Nat)} {dds : List D} {dvs : List V}
theorem call_defKs {j : Nat} (tk : Takes G.X G.E) (F : FnOk G.X.prog G.X.w G.X.K G.X.mg G.X.base (L2.CX G.X.prog G.X.w) k f fd ps (spM G.X.K G.ca n m)) (hr : Room k G.X.A) (hb : BKs G.X.K fd ps j ks spec dvs) (hd : ∀ W : Wd, Reps G.X.K G.ca W dvs dds) : CallDK G (.ref f) ks (mCallKs j ks.length n spec dds m) := by
  intro σ W st vs ds zs es Q wk r rz p
  unfold mCallKs at p
  split at p
  case isFalse => exact p.elim
  rename_i hl
  obtain ⟨mv, rm, hb⟩ := hb
  intro pins s us ws I rv rw_
  have l1 : us.length = j := by rw [← rv.length, r.length]; exact hl.1.1
  have l2 : ws.length = ks.length := by rw [← rw_.length, rz.length]; exact hl.1.2
  have h : spM G.X.K G.ca n m (vs ++ pickL spec zs dvs) W.h Q fun c d H' => G.E c d σ H' := ⟨W, st, ds ++ pickL spec es dds, rfl, wk, r.append (reps_pick rz (hd W) spec), hl.2, p⟩
  refine wpAny_call (codeAny_mono (F.run G.X.A G.X.stack s W.h ⟨us, ks.zip ws⟩ _ _ Q _ hr I.env0 (hb s us ws I.kIn l1 l2) (rv.append (vals_pick rw_ rm spec)) h) fun res s' hq => ?_)
  cases res with
  | error ex => exact tk ex s' (XE.of_call I (fun _ _ _ z => z) hq)
  | ok fl =>
    cases fl with
    | ret u => exact I.after hq
    | next => exact hq.elim
    | brk => exact hq.elim
    | cont => exact hq.elim
/-- the keywords' values -/
inductive RKs (G : Gx) : List Keyword → List Str → AM → Prop
  | nil : RKs G [] [] aNil
  | cons {e : Expr} {ma : EM} {kn : Str} {kp : Pos} {kws : List Keyword} {ks : List Str} {aa : AM} (h : RE G e ma) (r : RKs G kws ks aa) : RKs G (⟨some kn, e, kp⟩ :: kws) (kn :: ks) (aCons ma aa)
theorem pk_of : ∀ {kws : List Keyword} {ks : List Str} {ka : AM}, RKs G kws ks ka → ∀ σ W env st Q, WOk G.X.K G.ca W st → RepE G.X.K G.ca G.xc W σ env → PostA G W σ (ka env st) Q → ∃ t, PK G.X kws t ∧ t σ W.h Q
  | _, _, _, .nil, σ, W, env, st, Q, wk, re, p => ⟨tNil, pk_nil, p [] W (Ext.refl W) wk .nil⟩
  | _, _, _, .cons (e := e) h r, σ, W, env, st, Q, wk, re, p => by
    refine ⟨tCons (QE G e) (fun σ H Q => ∃ t, PK G.X _ t ∧ t σ H Q), pk_cons pe_q ⟨fun pos pins s σ H Q I h => by
      obtain ⟨t, h1, h2⟩ := h
      exact h1.run pos pins s σ H Q I h2⟩, ?_⟩
    refine h σ W env st _ wk re (bindEA p fun dx s1 x W1 e1 w1 r1 p1 => ?_)
    refine pk_of r σ W1 env s1 _ w1 (re.mono e1) (bindAA p1 fun ds s2 vs W2 e2 w2 r2 p2 => ?_)
    exact p2 (x :: vs) W2 (Ext.refl W2) w2 (.cons (r1.mono e2) r2)
def kKs (g : List D → List D → M D) (ds es : List D) : M D := fun s => g ds es s
def kKa (g : List D → List D → M D) (ka : AM) (env : En) (ds : List D) : M D := fun s => (ka env s).bind (kKs g ds)
def eCallK (g : List D → List D → M D) (aa ka : AM) : EM := fun env st => (aa env st).bind (kKa g ka env)
theorem re_callK {g : List D → List D → M D} {kws : List Keyword} (hc : CallDK G (.ref f) ks g) (hg : Gl G.X x) (hm : G.X.mg x = some (.ref f)) (hk : PySem.W.keepIn G.X.K (.ref f) = true) (ha : RA G (e :: es) aa) (hkw : RKs G kws ks ka)
    (hdb : (x == ("__debug__" : Str)) = false := by decide)
    (hall : (backToKw pos (keywordEach kws G.X.env)).all (·.1.isSome) = true := by rfl) (hks : (backToKw pos (keywordEach kws G.X.env)).filterMap (·.1) = ks := by rfl)
    (he : starEach (e :: es) G.X.env = (false, eval e G.X.env) :: starEach es G.X.env := by rfl)
    (hpl : ((backTo pos (starEach (e :: es) G.X.env)).any (·.1) || (backToKw pos (keywordEach kws G.X.env)).any (·.1.isNone)) = false := by rfl) :
    RE G (.Call (.Name x p) (e :: es) kws pos) (eCallK g aa ka) := by
  intro σ W env st Q wk re hp pins s I
  refine wpAny_Call_Name_kw (ld_glob I hg hm ?_ hdb)
  refine PySem.W.callWith_KW (first := []) (h₀ := G.X.base) I.ok.mod.kin hk hall (thn (ha σ W env st (fun vs H => ∃ t, PK G.X kws t ∧ t σ H fun zs H2 => QCK G (.ref f) ks σ vs zs H2 Q) wk re (bindAE hp fun ds s1 vs W1 e1 w1 r1 p1 => ?_) pos pins s I) fun us s1 hu => ?_) hpl he
  · have p1' : Post G W1 σ ((ka env s1).bind (kKs g ds)) Q := p1
    refine pk_of hkw σ W1 env s1 _ w1 (re.mono e1) (bindAE p1' fun es2 s2 zs W2 e2 w2 r2 p2 => ?_)
    exact hc σ W2 s2 vs ds zs es2 Q w2 (r1.mono e2) r2 p2
  · obtain ⟨vs, H1, I1, r1, t, pk, q⟩ := hu
    refine thn (pk.run pos pins s1 σ H1 _ I1 q) fun ws s2 hw => ?_
    obtain ⟨zs, H2, I2, r2, q2⟩ := hw
    rw [hks]
    exact ⟨I2.kIn, q2 pins s2 us ws I2 r1 r2⟩
end
end Mi
/-! MiKd: d.get(k, x), d a dict of the module with text keys. -/
namespace Mi
open PySem PySem.Spec PyProof.Rows L2 ClX
/-- a written dict with text keys -/
structure KTab (K : PySem.W.Frag) (w : World) (a : Addr) (kvs : List (Str × V)) : Prop where
  kd : ∃ es n, KDict K w a es n
  miss : ∀ x, kvs.lookup x = none → PySem.W.nsIn K a x = some none
  hit : ∀ x v, kvs.lookup x = some v → ∃ u, PySem.W.nsIn K a x = some (some u) ∧ RelV v u
def ktB (K : PySem.W.Frag) (a : Addr) (kvs : List (Str × V)) : Bool := kvs.all fun q => match PySem.W.nsIn K a q.1 with
  | some (some u) => He.relB q.2 u
  | _ => false
theorem keys_mem {P : Params} : ∀ {l : List DictEntry} {ks : List Str}, l.map He.keyOf = He.keysIn P ks → ∀ e ∈ l, ∃ k t, k ∈ ks ∧ e.key = .str k t
  | [], _, _, e, he => by cases he
  | e0 :: r, [], h, _, _ => by cases h
  | e0 :: r, k :: ks, h, e, he => by
    have h1 : He.keyOf e0 :: r.map He.keyOf = some (k, PyData.keyHash P k) :: He.keysIn P ks := h
    injection h1 with h2 h3
    rcases List.mem_cons.mp he with z | z
    · subst z
      unfold He.keyOf at h2
      split at h2
      · rename_i x t q
        have h4 := Option.some.inj h2
        obtain ⟨h5, _⟩ := Prod.mk.inj h4
        exact ⟨x, t, by rw [h5]; exact List.mem_cons_self .., q⟩
      · cases h2
    · obtain ⟨k', t, m1, m2⟩ := keys_mem h3 e z
      exact ⟨k', t, List.mem_cons_of_mem _ m1, m2⟩
theorem lookup_mem {α : Type} : ∀ {l : List (Str × α)} {x : Str}, l.lookup x = none → x ∉ l.map (·.1)
  | [], _, _, h => by cases h
  | (k, v) :: l, x, h, hm => by
    rw [List.lookup_cons] at h
    cases e : (x == k) with
    | true => rw [e] at h; cases h
    | false =>
      rw [e] at h
      rcases List.mem_cons.mp hm with z | z
      · have : x = k := z
        rw [this, beq_self_eq_true] at e
        cases e
      · exact lookup_mem h z
theorem lookup_at {α : Type} : ∀ {l : List (Str × α)} {x : Str} {v : α}, l.lookup x = some v → (x, v) ∈ l
  | [], _, _, h => by cases h
  | (k, v) :: l, x, y, h => by
    rw [List.lookup_cons] at h
    cases e : (x == k) with
    | true =>
      rw [e] at h
      have e1 : x = k := eq_of_beq e
      cases h
      rw [e1]
      exact List.mem_cons_self ..
    | false => rw [e] at h; exact List.mem_cons_of_mem _ (lookup_at h)
theorem ktab_of {K : PySem.W.Frag} {w : World} {a : Addr} {kvs : List (Str × V)} (h : He.dicW K a = some (He.keysIn w.params (kvs.map (·.1)))) (hv : ktB K a kvs = true) : KTab K w a kvs := by
  obtain ⟨es, n, D⟩ := He.dicW_ok h
  have hk : es.toList.map He.keyOf = He.keysIn w.params (kvs.map (·.1)) := by
    unfold He.dicW at h
    rw [D.at_] at h
    dsimp only at h
    split at h
    · exact Option.some.inj h
    · cases h
  refine ⟨⟨es, n, D⟩, fun x hx => ?_, fun x v hx => ?_⟩
  · have nm := lookup_mem hx
    unfold PySem.W.nsIn
    rw [D.at_]
    dsimp only
    have f1 : es.toList.find? (·.key.isStr x) = none := List.find?_eq_none.mpr fun e he hs => by
      obtain ⟨k, t, m1, m2⟩ := keys_mem hk e he
      rw [m2] at hs
      have : k = x := by simpa [Value.isStr] using hs
      exact nm (this ▸ m1)
    have f2 : es.toList.any (·.refKey) = false := List.any_eq_false.mpr fun e he => by
      obtain ⟨k, t, m1, m2⟩ := keys_mem hk e he
      simp [DictEntry.refKey, m2]
    rw [f1, f2]
    rfl
  · have m := List.all_eq_true.mp hv _ (lookup_at hx)
    dsimp only at m
    cases e : PySem.W.nsIn K a x with
    | none => rw [e] at m; cases m
    | some r =>
      rw [e] at m
      cases r with
      | none => cases m
      | some u => exact ⟨u, rfl, He.relB_ok m⟩
section
variable {G : Gx} {e f : Expr} {x : Str} {p apos cpos : Pos} {ma mb : EM} {a : Addr}
def kKget2 (tab : List (Str × D)) (y d : D) : M D := fun st => match y with
  | .str x => .ok ((tab.lookup x).getD d) st
  | _ => .bad
def kKget1 (tab : List (Str × D)) (b : EM) (env : En) (y : D) : M D := fun st => (b env st).bind (kKget2 tab y)
def eKGet (tab : List (Str × D)) (a b : EM) : EM := fun env st => (a env st).bind (kKget1 tab b env)
theorem re_kget {kvs : List (Str × V)} {tab : List (Str × D)} (T : KTab G.X.K G.X.w a kvs) (hg : Gl G.X x) (hm : G.X.mg x = some (.ref a)) (hr : ∀ W : Wd, ∀ z, (kvs.lookup z = none ∧ tab.lookup z = none) ∨ ∃ v d, kvs.lookup z = some v ∧ tab.lookup z = some d ∧ Rep G.X.K G.ca W v d)
    (ha : RE G e ma) (hb : RE G f mb) (m : M2 G.X (.Name x p) "get" apos e f cpos) (hdb : (x == ("__debug__" : Str)) = false := by decide) : RE G (.Call (.Attribute (.Name x p) "get" apos) [e, f] [] cpos) (eKGet tab ma mb) := by
  intro σ W env st Q wk re hp pins s I
  obtain ⟨⟨es, n, D⟩, miss, hit⟩ := T
  have hm' := PySem.W.mapOf_K (prog := G.X.prog) (w := G.X.w) I.kIn D.at_ D.lit
  refine wpAny_Call_method m.base m.few m.line PySem.F.plainAttrs_dict PySem.F.slot_dict_get PySem.F.type_dict_get (ld_glob I hg hm ?_ hdb)
  refine ⟨hm'.typeIs, fun b q => ?_, ?_⟩
  · cases q
    exact ⟨_, I.kIn _ _ D.at_, rfl⟩
  rw [m.trees]
  refine Calls.callWith_builtin rfl (Calls.evalArgs_plain (Calls.spliced_cons (thn (ha σ W env st (fun v H => QE G f σ H fun z H2 => ∃ t : Str, v = .str t ∧ ∀ (r : V), (kvs.lookup t = some r → Q r H2) ∧ (kvs.lookup t = none → Q z H2)) wk re (bindEE hp fun y s1 v W1 e1 w1 r1 p1 => ?_) pins s I) fun iv s2 hv => ?_)))
  · refine hb σ W1 env s1 _ w1 (re.mono e1) (bindEE p1 fun d s2 z W2 e2 w2 r2 p2 => ?_)
    unfold kKget2 at p2
    split at p2
    · rename_i t
      cases r1
      refine ⟨t, rfl, fun r => ⟨fun h => ?_, fun h => ?_⟩⟩
      · rcases hr W2 t with ⟨h1, h2⟩ | ⟨v, d', h1, h2, h3⟩
        · rw [h] at h1; cases h1
        · rw [h] at h1
          cases h1
          rw [h2] at p2
          exact p2 _ W2 (Ext.refl W2) w2 h3
      · rcases hr W2 t with ⟨h1, h2⟩ | ⟨v, d', h1, h2, h3⟩
        · rw [h2] at p2
          exact p2 _ W2 (Ext.refl W2) w2 r2
        · rw [h] at h1; cases h1
    · exact p2.elim
  · obtain ⟨v, H2, I2, ry, q2⟩ := hv
    refine Calls.spliced_cons (thn (q2 pins s2 I2) fun fv s3 hv3 => Calls.spliced_nil ?_)
    obtain ⟨z, H3, I3, rz, t, rfl, q3⟩ := hv3
    obtain ⟨tk, rfl⟩ := ry
    have hm3 := PySem.W.mapOf_K (prog := G.X.prog) (w := G.X.w) I3.kIn D.at_ D.lit
    refine call_meetsIn PySem.F.slot_dict_get hm3.typeIs PySem.F.entry_dict_get (PySem.F.args_dict_get_3 _ _ _) (meets_dict_get_default (strKind G.X.prog G.X.w) a (strKind_is G.X.prog G.X.w t tk) D.low fv) ⟨_, hm3, ?_⟩
    cases hl : kvs.lookup t with
    | none =>
      rw [PySem.W.find_K D.at_ (miss t hl)]
      exact ⟨z, H3, I3.tok _, rz, (q3 z).2 hl⟩
    | some r =>
      obtain ⟨u, h1, h2⟩ := hit t r hl
      rw [PySem.W.find_K D.at_ h1]
      exact ⟨r, H3, I3.tok _, h2, (q3 r).1 hl⟩
end
/-- a table's values, both ways -/
inductive TRel (K : PySem.W.Frag) (ca : Nat → Addr) : List (Str × V) → List (Str × D) → Prop
  | nil : TRel K ca [] []
  | cons {k : Str} {v : V} {d : D} {l : List (Str × V)} {m : List (Str × D)} (h : ∀ W : Wd, Rep K ca W v d) (r : TRel K ca l m) : TRel K ca ((k, v) :: l) ((k, d) :: m)
theorem tr_lookup {K : PySem.W.Frag} {ca : Nat → Addr} : ∀ {l : List (Str × V)} {m : List (Str × D)}, TRel K ca l m → ∀ (W : Wd) (z : Str), (l.lookup z = none ∧ m.lookup z = none) ∨ ∃ v d, l.lookup z = some v ∧ m.lookup z = some d ∧ Rep K ca W v d
  | _, _, .nil, W, z => .inl ⟨rfl, rfl⟩
  | _, _, .cons (k := k) h r, W, z => by
    rw [List.lookup_cons, List.lookup_cons]
    cases e : (z == k) with
    | true => exact .inr ⟨_, _, rfl, rfl, h W⟩
    | false => exact tr_lookup r W z
end Mi
/-! MiHeadD: the head of a law whose top holds dicts with text keys. -/
namespace Mi
open PySem PySem.Spec PyProof.Rows L2
abbrev TabW : Type := Option (List (Option (Str × Int)))
abbrev AlD : Type := AlM × List TabW
def obsD (chk : PySem.W.Frag → List Bool) (fn : List DefM) (tabs : List (Str × List Str)) (K : PySem.W.Frag) : AlD := (obsM chk fn K, tabs.map fun t => He.dicW K (He.ga K t.1))
def valDw (fn : List DefM) (tabs : List (Str × List Str)) (w : World) : AlD := (valM fn, tabs.map fun t => some (He.keysIn w.params t.2))
def SaysD (chk : PySem.W.Frag → List Bool) (fn : List DefM) (tabs : List (Str × List Str)) (w : World) (K : PySem.W.Frag) : Prop := obsD chk fn tabs K = valDw fn tabs w
def hookD (as : List Addr) (chk : PySem.W.Frag → List Bool) (fn : List DefM) (tabs : List (Str × List Str)) : PySem.W.Hook where
  α := AlD
  obs := fun s => obsD chk fn tabs (He.frG s.heap.get? as)
  val := fun w => valDw fn tabs w
  says := fun w h => ∃ K : PySem.W.Frag, K.In h ∧ SaysD chk fn tabs w K
  of := fun _ _ e => ⟨_, He.frG_in, e⟩
  keeps := fun _ _ _ z k => ⟨z.choose, PySem.W.Frag.In.keeps z.choose_spec.1 k, z.choose_spec.2⟩
theorem obsD_eq {as : List Addr} {chk : PySem.W.Frag → List Bool} {fn : List DefM} {tabs : List (Str × List Str)} {g : Addr → Option Obj} {s : Shared} (h : ∀ a, g a = s.heap.get? a) : obsD chk fn tabs (He.frG g as) = (hookD as chk fn tabs).obs s := by
  obtain rfl : g = s.heap.get? := funext h
  rfl
section
variable {chk : PySem.W.Frag → List Bool} {fn : List DefM} {tabs : List (Str × List Str)} {K : PySem.W.Frag} {w : World}
theorem SaysD.m (c : SaysD chk fn tabs w K) : SaysM chk fn K := congrArg (fun z : AlD => z.1) c
theorem SaysD.tab (c : SaysD chk fn tabs w K) (i : Nat) {t : Str × List Str} (h : tabs[i]? = some t) : He.dicW K (He.ga K t.1) = some (He.keysIn w.params t.2) := by
  have e : (tabs.map fun t => He.dicW K (He.ga K t.1)) = tabs.map fun t => some (He.keysIn w.params t.2) := congrArg (fun z : AlD => z.2) c
  have e2 : (tabs.map fun t => He.dicW K (He.ga K t.1))[i]? = (tabs.map fun t => some (He.keysIn w.params t.2))[i]? := by rw [e]
  rw [List.getElem?_map, List.getElem?_map, h] at e2
  exact Option.some.inj e2
/-- the observation in two parts -/
theorem obsD_of {α : Type} {e : Option α} {kf : α → PySem.W.Frag} (h1 : e.map (fun s => obsM chk fn (kf s)) = some (valM fn)) (h2 : e.map (fun s => tabs.map fun t => He.dicW (kf s) (He.ga (kf s) t.1)) = some (tabs.map fun t => some (He.keysIn w.params t.2))) :
    e.map (fun s => obsD chk fn tabs (kf s)) = some (valDw fn tabs w) := by
  cases e with
  | none => cases h1
  | some s => exact congrArg some (Prod.ext (Option.some.inj h1) (Option.some.inj h2))
end
theorem law_walkD {l : PySem.W.OpenLaw} {q : Program} {loose : List Str} {XP : (Str → Option Value) → Heap → Prop} {d : DefRec} {as : List Addr} {chk : PySem.W.Frag → List Bool} {fn : List DefM} {tabs : List (Str × List Str)} {k : Nat} {x : Str} {m : List D → M D}
    (hn : l.most = some 63) (hdf : d.params.defaults = []) (hr : Room k callerA) (hm : ∀ ns : List Int, ns.length ≤ 63 → ∃ st, m [.fix (ns.map D.int)] [] = .ok (.bl true) st)
    (F : ∀ (w : World) (K : PySem.W.Frag) (mg : Str → Option Value) (fa : Addr) (h : Heap), K.In h → SaysD chk fn tabs w K → h.Ns mainGlobals mg → mg d.name = some (.ref fa) →
      ∃ fd : FuncData, (∀ (s : Shared) (u : Value), BindsTo s fd ⟨[u], []⟩ [(x, u)]) ∧ ∀ base : Heap, K.In base → base.Ns mainGlobals mg → FnOk l.prog w K mg base (L2.CX l.prog w) k fa fd [x] (spLaw m K)) :
    PySem.W.WalkO q loose XP (hookD as chk fn tabs).says l.row.toRowW d [] (fun f vs => PySem.call f vs) := by
  refine Att.attach_call hn hdf fun w s₀ s₁ mg mb fa o pm cd doc a vs ns G Y _ _ _ hmg hobj hints hlen hg => ?_
  obtain ⟨K, KX, c⟩ := Y
  obtain ⟨fd, hb, hF⟩ := F w K mg fa _ KX c G.T.g hmg
  refine law_call KX G.T.g G.T.b G.T.builtins G.T.nolimit hg hobj hints (Nat.le_trans hlen (by decide)) hr hF hb (fun H _ hS => law_sp (hm ns hlen) hS) fun H e s' z => ?_
  obtain ⟨_, _, _, _, _, _, _, _, _, _, _, _, z⟩ := z
  exact z
end Mi
/-! MiLong: forms for long list literals, to be used in explicit mode. -/
namespace Mi
open PySem PySem.Spec PyProof.Rows L2
theorem rs_setL {G : Gx} {e : Expr} {ma : EM} {i : Nat} {x : Str} {pos pos' : Pos} (hN : G.X.N.Nodup) (hi : G.X.N[i]? = some x) (hx : Loc G.X.env.scope x) (ha : RE G e ma) (hs : swapsWith e (some (.Name x pos')) pos.line G.X.env = pure false)
    (hf : G.X.fn x = true ∨ G.X.env.scope.names.lookup x = some .local) : RS G (.Assign [.Name x pos'] e pos) (sSet i ma) := rs_set hN hi hx ha hs hf
end Mi
namespace W19
open PySem PySem.Spec PyProof.Rows L2 ClX ItX Mi
def topS (i : Nat) : Stmt := PySem.Challenge.pw_pagebureau_k19_fill_text_and_refusals.main.body.getD i (.Pass ⟨0, 0, 0, 0⟩)
/-! BadText.__init__ -/
abbrev s_BadText : Stmt := inClass (topS 3) 0
abbrev N_BadText : List Str := ["self", "at"]
theorem sc_BadText : FnScope N_BadText ["self", "at"] (defScope s_BadText) := ⟨rfl, rfl, rfl, by decide +kernel, rfl, by decide +kernel, by decide +kernel⟩
/-! BadStep.__init__ -/
abbrev s_BadStep : Stmt := inClass (topS 4) 0
abbrev N_BadStep : List Str := ["self", "at"]
theorem sc_BadStep : FnScope N_BadStep ["self", "at"] (defScope s_BadStep) := ⟨rfl, rfl, rfl, by decide +kernel, rfl, by decide +kernel, by decide +kernel⟩
/-! is_halt -/
abbrev s_is_halt : Stmt := topS 14
abbrev N_is_halt : List Str := ["thing", "mark"]
theorem sc_is_halt : FnScope N_is_halt ["thing"] (defScope s_is_halt) := ⟨rfl, rfl, rfl, by decide +kernel, rfl, by decide +kernel, by decide +kernel⟩
/-! is_limit -/
abbrev s_is_limit : Stmt := topS 15
abbrev N_is_limit : List Str := ["thing"]
theorem sc_is_limit : FnScope N_is_limit ["thing"] (defScope s_is_limit) := ⟨rfl, rfl, rfl, by decide +kernel, rfl, by decide +kernel, by decide +kernel⟩
/-! is_fill_step -/
abbrev s_is_fill_step : Stmt := topS 16
abbrev N_is_fill_step : List Str := ["thing", "way", "rows", "halt"]
theorem sc_is_fill_step : FnScope N_is_fill_step ["thing"] (defScope s_is_fill_step) := ⟨rfl, rfl, rfl, by decide +kernel, rfl, by decide +kernel, by decide +kernel⟩
/-! fill_step -/
abbrev s_fill_step : Stmt := topS 17
abbrev N_fill_step : List Str := ["way", "rows", "halt", "step"]
theorem sc_fill_step : FnScope N_fill_step ["way", "rows", "halt"] (defScope s_fill_step) := ⟨rfl, rfl, rfl, by decide +kernel, rfl, by decide +kernel, by decide +kernel⟩
/-! fill_text -/
abbrev s_fill_text : Stmt := topS 18
abbrev N_fill_text : List Str := ["step", "way", "rows", "halt", "limit", "end"]
theorem sc_fill_text : FnScope N_fill_text ["step"] (defScope s_fill_text) := ⟨rfl, rfl, rfl, by decide +kernel, rfl, by decide +kernel, by decide +kernel⟩
/-! step_of -/
abbrev s_step_of : Stmt := topS 19
abbrev N_step_of : List Str := ["text", "way", "words", "rows", "halt", "name", "word", "step"]
theorem sc_step_of : FnScope N_step_of ["text"] (defScope s_step_of) := ⟨rfl, rfl, rfl, by decide +kernel, rfl, by decide +kernel, by decide +kernel⟩
/-! read_fill -/
abbrev s_read_fill : Stmt := topS 20
abbrev N_read_fill : List Str := ["text", "step"]
theorem sc_read_fill : FnScope N_read_fill ["text"] (defScope s_read_fill) := ⟨rfl, rfl, rfl, by decide +kernel, rfl, by decide +kernel, by decide +kernel⟩
/-! _law_pool -/
abbrev s_law_pool : Stmt := topS 22
abbrev N_law_pool : List Str := ["_law_script", "_law_seed", "_law_cell"]
theorem sc_law_pool : FnScope N_law_pool ["_law_script"] (defScope s_law_pool) := ⟨rfl, rfl, rfl, by decide +kernel, rfl, by decide +kernel, by decide +kernel⟩
/-! _law_draw -/
abbrev s_law_draw : Stmt := topS 23
abbrev N_law_draw : List Str := ["_law_pool_here", "_law_limit_here", "_law_digit", "_law_mixed"]
theorem sc_law_draw : FnScope N_law_draw ["_law_pool_here", "_law_limit_here"] (defScope s_law_draw) := ⟨rfl, rfl, rfl, by decide +kernel, rfl, by decide +kernel, by decide +kernel⟩
/-! _law_pick -/
abbrev s_law_pick : Stmt := topS 24
abbrev N_law_pick : List Str := ["_law_pool_here", "_law_things"]
theorem sc_law_pick : FnScope N_law_pick ["_law_pool_here", "_law_things"] (defScope s_law_pick) := ⟨rfl, rfl, rfl, by decide +kernel, rfl, by decide +kernel, by decide +kernel⟩
/-! _law_letters -/
abbrev s_law_letters : Stmt := topS 25
abbrev N_law_letters : List Str := ["_law_bits", "_law_letters_here", "_law_mark"]
theorem sc_law_letters : FnScope N_law_letters ["_law_bits"] (defScope s_law_letters) := ⟨rfl, rfl, rfl, by decide +kernel, rfl, by decide +kernel, by decide +kernel⟩
/-! _law_whole -/
abbrev s_law_whole : Stmt := topS 26
abbrev N_law_whole : List Str := ["_law_actual"]
theorem sc_law_whole : FnScope N_law_whole ["_law_actual"] (defScope s_law_whole) := ⟨rfl, rfl, rfl, by decide +kernel, rfl, by decide +kernel, by decide +kernel⟩
/-! _law_set -/
abbrev s_law_set : Stmt := topS 27
abbrev N_law_set : List Str := ["_law_letters_here", "_law_last", "_law_mark"]
theorem sc_law_set : FnScope N_law_set ["_law_letters_here"] (defScope s_law_set) := ⟨rfl, rfl, rfl, by decide +kernel, rfl, by decide +kernel, by decide +kernel⟩
/-! _law_valid -/
abbrev s_law_valid : Stmt := topS 28
abbrev N_law_valid : List Str := ["_law_way", "_law_limit_here", "_law_stop_here"]
theorem sc_law_valid : FnScope N_law_valid ["_law_way", "_law_limit_here", "_law_stop_here"] (defScope s_law_valid) := ⟨rfl, rfl, rfl, by decide +kernel, rfl, by decide +kernel, by decide +kernel⟩
/-! _law_is_step -/
abbrev s_law_is_step : Stmt := topS 29
abbrev N_law_is_step : List Str := ["_law_actual", "_law_due"]
theorem sc_law_is_step : FnScope N_law_is_step ["_law_actual", "_law_due"] (defScope s_law_is_step) := ⟨rfl, rfl, rfl, by decide +kernel, rfl, by decide +kernel, by decide +kernel⟩
/-! _law_made -/
abbrev s_law_made : Stmt := topS 30
abbrev N_law_made : List Str := ["_law_way", "_law_limit_here", "_law_stop_here", "_law_due", "_law_step", "e", "_law_own"]
theorem sc_law_made : FnScope N_law_made ["_law_way", "_law_limit_here", "_law_stop_here"] (defScope s_law_made) := ⟨rfl, rfl, rfl, by decide +kernel, rfl, by decide +kernel, by decide +kernel⟩
/-! _law_short -/
abbrev s_law_short : Stmt := topS 31
abbrev N_law_short : List Str := ["_law_way", "_law_limit_here", "_law_stop_here", "_law_steps"]
theorem sc_law_short : FnScope N_law_short ["_law_way", "_law_limit_here", "_law_stop_here"] (defScope s_law_short) := ⟨rfl, rfl, rfl, by decide +kernel, rfl, by decide +kernel, by decide +kernel⟩
/-! _law_text -/
abbrev s_law_text : Stmt := topS 32
abbrev N_law_text : List Str := ["_law_step", "_law_text_here"]
theorem sc_law_text : FnScope N_law_text ["_law_step"] (defScope s_law_text) := ⟨rfl, rfl, rfl, by decide +kernel, rfl, by decide +kernel, by decide +kernel⟩
/-! _law_reading -/
abbrev s_law_reading : Stmt := topS 33
abbrev N_law_reading : List Str := ["_law_text_here", "_law_words", "_law_limit_here", "_law_stop_here", "_law_rest"]
theorem sc_law_reading : FnScope N_law_reading ["_law_text_here"] (defScope s_law_reading) := ⟨rfl, rfl, rfl, by decide +kernel, rfl, by decide +kernel, by decide +kernel⟩
/-! _law_reads -/
abbrev s_law_reads : Stmt := topS 34
abbrev N_law_reads : List Str := ["_law_text_here", "_law_due", "_law_step", "e", "_law_own"]
theorem sc_law_reads : FnScope N_law_reads ["_law_text_here"] (defScope s_law_reads) := ⟨rfl, rfl, rfl, by decide +kernel, rfl, by decide +kernel, by decide +kernel⟩
/-! _law_odd -/
abbrev s_law_odd : Stmt := topS 35
abbrev N_law_odd : List Str := ["_law_pool_here", "_law_odd_here"]
theorem sc_law_odd : FnScope N_law_odd ["_law_pool_here"] (defScope s_law_odd) := ⟨rfl, rfl, rfl, by decide +kernel, rfl, by decide +kernel, by decide +kernel⟩
/-! _law_spoilt -/
abbrev s_law_spoilt : Stmt := topS 36
abbrev N_law_spoilt : List Str := ["_law_pool_here", "_law_step", "_law_text_here", "_law_words", "_law_kind", "_law_at", "_law_sign"]
theorem sc_law_spoilt : FnScope N_law_spoilt ["_law_pool_here", "_law_step"] (defScope s_law_spoilt) := ⟨rfl, rfl, rfl, by decide +kernel, rfl, by decide +kernel, by decide +kernel⟩
/-! _law_limit -/
abbrev s_law_limit : Stmt := topS 37
abbrev N_law_limit : List Str := ["_law_pool_here"]
theorem sc_law_limit : FnScope N_law_limit ["_law_pool_here"] (defScope s_law_limit) := ⟨rfl, rfl, rfl, by decide +kernel, rfl, by decide +kernel, by decide +kernel⟩
/-! _law_stop -/
abbrev s_law_stop : Stmt := topS 38
abbrev N_law_stop : List Str := ["_law_pool_here", "_law_odd_here"]
theorem sc_law_stop : FnScope N_law_stop ["_law_pool_here"] (defScope s_law_stop) := ⟨rfl, rfl, rfl, by decide +kernel, rfl, by decide +kernel, by decide +kernel⟩
/-! _law_good -/
abbrev s_law_good : Stmt := topS 39
abbrev N_law_good : List Str := ["_law_pool_here", "_law_way", "_law_limit_here"]
theorem sc_law_good : FnScope N_law_good ["_law_pool_here"] (defScope s_law_good) := ⟨rfl, rfl, rfl, by decide +kernel, rfl, by decide +kernel, by decide +kernel⟩
/-! law -/
abbrev s_law : Stmt := topS 40
abbrev N_law : List Str := ["_law_script", "_law_pool_here", "_law_ways", "_law_k", "_law_way", "_law_limit_here", "_law_stop_here", "_law_some", "_law_step", "_law_texts", "_law_text_here"]
theorem sc_law : FnScope N_law ["_law_script"] (defScope s_law) := ⟨rfl, rfl, rfl, by decide +kernel, rfl, by decide +kernel, by decide +kernel⟩
structure Txt (K : PySem.W.Frag) (mg : Str → Option Value) (ca fa pa wa : Nat → Addr) (fd : Nat → FuncData) (w : World) : Prop where
  mgc4 : mg "BadText" = some (.ref (ca 4))
  fi0 : PySem.W.findIn K (.ref (ca 4)) "__init__" = some (some (.ref (fa 0)))
  F0 : FD K "__init__" "BadText.__init__" s_BadText [] (fa 0) (fd 0)
  ox4 : OexC K (ca 4)
  na4_at : NoAttr K (ca 4) "at"
  mgc16 : mg "BadStep" = some (.ref (ca 16))
  fi1 : PySem.W.findIn K (.ref (ca 16)) "__init__" = some (some (.ref (fa 1)))
  F1 : FD K "__init__" "BadStep.__init__" s_BadStep [] (fa 1) (fd 1)
  ox16 : OexC K (ca 16)
  na16_at : NoAttr K (ca 16) "at"
  g2 : mg "is_halt" = some (.ref (fa 2))
  F2 : FD K "is_halt" "is_halt" s_is_halt [] (fa 2) (fd 2)
  z_isinstance : mg "isinstance" = none
  z_str : mg "str" = none
  kit_non_str : PySem.W.kitOne K (tagV ca .non) (.type "str") = some false
  kit_bl_str : PySem.W.kitOne K (tagV ca .bl) (.type "str") = some false
  kit_int_str : PySem.W.kitOne K (tagV ca .int) (.type "str") = some false
  kit_str_str : PySem.W.kitOne K (tagV ca .str) (.type "str") = some true
  kit_lst_str : PySem.W.kitOne K (tagV ca .lst) (.type "str") = some false
  kit_tup_str : PySem.W.kitOne K (tagV ca .tup) (.type "str") = some false
  mgc43 : mg "Marks" = some (.ref (ca 43))
  cr43 : CRead K (ca 43) (.type "type")
  cv43_ALL : ∃ u, CVal K (ca 43) (.type "type") "ALL" (V.str "abcdef") u
  g3 : mg "is_limit" = some (.ref (fa 3))
  F3 : FD K "is_limit" "is_limit" s_is_limit [] (fa 3) (fd 3)
  z_int : mg "int" = none
  kit_non_int : PySem.W.kitOne K (tagV ca .non) (.type "int") = some false
  kit_bl_int : PySem.W.kitOne K (tagV ca .bl) (.type "int") = some true
  kit_int_int : PySem.W.kitOne K (tagV ca .int) (.type "int") = some true
  kit_str_int : PySem.W.kitOne K (tagV ca .str) (.type "int") = some false
  kit_lst_int : PySem.W.kitOne K (tagV ca .lst) (.type "int") = some false
  kit_tup_int : PySem.W.kitOne K (tagV ca .tup) (.type "int") = some false
  z_bool : mg "bool" = none
  kit_non_bool : PySem.W.kitOne K (tagV ca .non) (.type "bool") = some false
  kit_bl_bool : PySem.W.kitOne K (tagV ca .bl) (.type "bool") = some true
  kit_int_bool : PySem.W.kitOne K (tagV ca .int) (.type "bool") = some false
  kit_str_bool : PySem.W.kitOne K (tagV ca .str) (.type "bool") = some false
  kit_lst_bool : PySem.W.kitOne K (tagV ca .lst) (.type "bool") = some false
  kit_tup_bool : PySem.W.kitOne K (tagV ca .tup) (.type "bool") = some false
  gc_MOST_ROWS : ∃ u, mg "MOST_ROWS" = some u ∧ RelV (V.int 6) u
  g4 : mg "is_fill_step" = some (.ref (fa 4))
  F4 : FD K "is_fill_step" "is_fill_step" s_is_fill_step [] (fa 4) (fd 4)
  z_tuple : mg "tuple" = none
  kit_non_tuple : PySem.W.kitOne K (tagV ca .non) (.type "tuple") = some false
  kit_bl_tuple : PySem.W.kitOne K (tagV ca .bl) (.type "tuple") = some false
  kit_int_tuple : PySem.W.kitOne K (tagV ca .int) (.type "tuple") = some false
  kit_str_tuple : PySem.W.kitOne K (tagV ca .str) (.type "tuple") = some false
  kit_lst_tuple : PySem.W.kitOne K (tagV ca .lst) (.type "tuple") = some false
  kit_tup_tuple : PySem.W.kitOne K (tagV ca .tup) (.type "tuple") = some true
  z_len : mg "len" = none
  wt0 : WrT K (wa 0) [(V.str "drop"), V.non, (V.str "-")]
  gt_DROP_STEP : mg "DROP_STEP" = some (.ref (wa 0))
  wt1 : WrT K (wa 1) [(V.str "down"), (V.str "up"), (V.str "near_above"), (V.str "near_below")]
  gt_FILL_WAYS : mg "FILL_WAYS" = some (.ref (wa 1))
  g5 : mg "fill_step" = some (.ref (fa 5))
  F5 : FD K "fill_step" "fill_step" s_fill_step [] (fa 5) (fd 5)
  ti1 : PySem.W.typeIn K (.ref (fa 1)) = some (.type "function")
  g6 : mg "fill_text" = some (.ref (fa 6))
  F6 : FD K "fill_text" "fill_text" s_fill_text [] (fa 6) (fd 6)
  g7 : mg "step_of" = some (.ref (fa 7))
  F7 : FD K "step_of" "step_of" s_step_of [] (fa 7) (fd 7)
  z_zip : mg "zip" = none
  kt_NUMBERS : ∃ a, mg "NUMBERS" = some (.ref a) ∧ KTab K w a [("1", (V.int 1)), ("2", (V.int 2)), ("3", (V.int 3)), ("4", (V.int 4)), ("5", (V.int 5)), ("6", (V.int 6))]
  g8 : mg "read_fill" = some (.ref (fa 8))
  F8 : FD K "read_fill" "read_fill" s_read_fill [] (fa 8) (fd 8)
  ti0 : PySem.W.typeIn K (.ref (fa 0)) = some (.type "function")
  g9 : mg "_law_pool" = some (.ref (fa 9))
  F9 : FD K "_law_pool" "_law_pool" s_law_pool [] (fa 9) (fd 9)
  z_abs : mg "abs" = none
  g10 : mg "_law_draw" = some (.ref (fa 10))
  F10 : FD K "_law_draw" "_law_draw" s_law_draw [] (fa 10) (fd 10)
  g11 : mg "_law_pick" = some (.ref (fa 11))
  F11 : FD K "_law_pick" "_law_pick" s_law_pick [] (fa 11) (fd 11)
  g12 : mg "_law_letters" = some (.ref (fa 12))
  F12 : FD K "_law_letters" "_law_letters" s_law_letters [] (fa 12) (fd 12)
  g13 : mg "_law_whole" = some (.ref (fa 13))
  F13 : FD K "_law_whole" "_law_whole" s_law_whole [] (fa 13) (fd 13)
  g14 : mg "_law_set" = some (.ref (fa 14))
  F14 : FD K "_law_set" "_law_set" s_law_set [] (fa 14) (fd 14)
  g15 : mg "_law_valid" = some (.ref (fa 15))
  F15 : FD K "_law_valid" "_law_valid" s_law_valid [] (fa 15) (fd 15)
  g16 : mg "_law_is_step" = some (.ref (fa 16))
  F16 : FD K "_law_is_step" "_law_is_step" s_law_is_step [] (fa 16) (fd 16)
  g17 : mg "_law_made" = some (.ref (fa 17))
  F17 : FD K "_law_made" "_law_made" s_law_made [] (fa 17) (fd 17)
  FK5 : FDk K "fill_step" "fill_step" s_fill_step [("rows", V.non), ("halt", (V.str "-"))] (fa 5) (fd 5)
  exm16_c16 : PySem.W.exmOne K (.ref (ca 16)) (.ref (ca 16)) = some true
  exm4_c16 : PySem.W.exmOne K (.ref (ca 4)) (.ref (ca 16)) = some false
  mgc0 : mg "BureauError" = some (.ref (ca 0))
  kitx16_c0 : PySem.W.kitOne K (.ref (ca 16)) (.ref (ca 0)) = some true
  xc16 : ExcC K (ca 16)
  xi16 : (PySem.W.clsIn K (ca 16)).isSome = true
  kitx4_c0 : PySem.W.kitOne K (.ref (ca 4)) (.ref (ca 0)) = some true
  xc4 : ExcC K (ca 4)
  xi4 : (PySem.W.clsIn K (ca 4)).isSome = true
  z_ValueError : mg "ValueError" = none
  kitx16_ValueError : PySem.W.kitOne K (.ref (ca 16)) (.type "ValueError") = some true
  kitx4_ValueError : PySem.W.kitOne K (.ref (ca 4)) (.type "ValueError") = some true
  kitx16_c4 : PySem.W.kitOne K (.ref (ca 16)) (.ref (ca 4)) = some false
  kitx4_c4 : PySem.W.kitOne K (.ref (ca 4)) (.ref (ca 4)) = some true
  xf16 : XfC K (ca 16)
  xf4 : XfC K (ca 4)
  g18 : mg "_law_short" = some (.ref (fa 18))
  F18 : FD K "_law_short" "_law_short" s_law_short [] (fa 18) (fd 18)
  g19 : mg "_law_text" = some (.ref (fa 19))
  F19 : FD K "_law_text" "_law_text" s_law_text [] (fa 19) (fd 19)
  g20 : mg "_law_reading" = some (.ref (fa 20))
  F20 : FD K "_law_reading" "_law_reading" s_law_reading [] (fa 20) (fd 20)
  g21 : mg "_law_reads" = some (.ref (fa 21))
  F21 : FD K "_law_reads" "_law_reads" s_law_reads [] (fa 21) (fd 21)
  exm16_c4 : PySem.W.exmOne K (.ref (ca 16)) (.ref (ca 4)) = some false
  exm4_c4 : PySem.W.exmOne K (.ref (ca 4)) (.ref (ca 4)) = some true
  kitx16_c16 : PySem.W.kitOne K (.ref (ca 16)) (.ref (ca 16)) = some true
  kitx4_c16 : PySem.W.kitOne K (.ref (ca 4)) (.ref (ca 16)) = some false
  g22 : mg "_law_odd" = some (.ref (fa 22))
  F22 : FD K "_law_odd" "_law_odd" s_law_odd [] (fa 22) (fd 22)
  g23 : mg "_law_spoilt" = some (.ref (fa 23))
  F23 : FD K "_law_spoilt" "_law_spoilt" s_law_spoilt [] (fa 23) (fd 23)
  g24 : mg "_law_limit" = some (.ref (fa 24))
  F24 : FD K "_law_limit" "_law_limit" s_law_limit [] (fa 24) (fd 24)
  g25 : mg "_law_stop" = some (.ref (fa 25))
  F25 : FD K "_law_stop" "_law_stop" s_law_stop [] (fa 25) (fd 25)
  g26 : mg "_law_good" = some (.ref (fa 26))
  F26 : FD K "_law_good" "_law_good" s_law_good [] (fa 26) (fd 26)
  g27 : mg "law" = some (.ref (fa 27))
  F27 : FD K "law" "law" s_law [] (fa 27) (fd 27)
  z_range : mg "range" = none
theorem bd_BadText {K : PySem.W.Frag} {mg : Str → Option Value} {ca fa pa wa : Nat → Addr} {fd : Nat → FuncData} {w : World} (T : Txt K mg ca fa pa wa fd w) : BD K (fd 0) ["self", "at"] [] := Mi.bd0 (ps := ["self", "at"]) T.F0 fun _ _ _ _ _ _ us hl => match us, hl with | [_, _], _ => rfl
theorem bd_BadStep {K : PySem.W.Frag} {mg : Str → Option Value} {ca fa pa wa : Nat → Addr} {fd : Nat → FuncData} {w : World} (T : Txt K mg ca fa pa wa fd w) : BD K (fd 1) ["self", "at"] [] := Mi.bd0 (ps := ["self", "at"]) T.F1 fun _ _ _ _ _ _ us hl => match us, hl with | [_, _], _ => rfl
theorem bd_is_halt {K : PySem.W.Frag} {mg : Str → Option Value} {ca fa pa wa : Nat → Addr} {fd : Nat → FuncData} {w : World} (T : Txt K mg ca fa pa wa fd w) : BD K (fd 2) ["thing"] [] := Mi.bd0 (ps := ["thing"]) T.F2 fun _ _ _ _ _ _ us hl => match us, hl with | [_], _ => rfl
theorem bd_is_limit {K : PySem.W.Frag} {mg : Str → Option Value} {ca fa pa wa : Nat → Addr} {fd : Nat → FuncData} {w : World} (T : Txt K mg ca fa pa wa fd w) : BD K (fd 3) ["thing"] [] := Mi.bd0 (ps := ["thing"]) T.F3 fun _ _ _ _ _ _ us hl => match us, hl with | [_], _ => rfl
theorem bd_is_fill_step {K : PySem.W.Frag} {mg : Str → Option Value} {ca fa pa wa : Nat → Addr} {fd : Nat → FuncData} {w : World} (T : Txt K mg ca fa pa wa fd w) : BD K (fd 4) ["thing"] [] := Mi.bd0 (ps := ["thing"]) T.F4 fun _ _ _ _ _ _ us hl => match us, hl with | [_], _ => rfl
theorem bd_fill_step_k {K : PySem.W.Frag} {mg : Str → Option Value} {ca fa pa wa : Nat → Addr} {fd : Nat → FuncData} {w : World} (T : Txt K mg ca fa pa wa fd w) : BD K (fd 5) ["way", "rows", "halt"] [V.non, (V.str "-")] := bdk (ps := ["way", "rows", "halt"]) T.FK5 1 (by intro z; cases z) rfl fun _ _ _ _ _ _ us mv h1 h2 => match us, h1, mv, h2 with | [_], _, [_, _], _ => ⟨_, _, _, _, _, _, rfl, rfl, ⟨_, _, _, _, _, _, rfl, rfl, rfl⟩⟩
theorem bks_fill_step_0 {K : PySem.W.Frag} {mg : Str → Option Value} {ca fa pa wa : Nat → Addr} {fd : Nat → FuncData} {w : World} (T : Txt K mg ca fa pa wa fd w) : BKs K (fd 5) ["way", "rows", "halt"] 1 ["rows", "halt"] [(true, 0), (true, 1)] [] := bks_all (ps := ["way", "rows", "halt"]) (ks := ["rows", "halt"]) T.F5 fun _ _ _ _ _ _ us ws h1 h2 => match us, h1, ws, h2 with | [_], _, [_, _], _ => rfl
theorem bks_fill_step_1 {K : PySem.W.Frag} {mg : Str → Option Value} {ca fa pa wa : Nat → Addr} {fd : Nat → FuncData} {w : World} (T : Txt K mg ca fa pa wa fd w) : BKs K (fd 5) ["way", "rows", "halt"] 1 ["rows"] [(true, 0), (false, 0)] [(V.str "-")] := bks_some (om := [("halt", (V.str "-"))]) (ps := ["way", "rows", "halt"]) (ks := ["rows"]) (fdk_sub T.FK5 (by decide)) (by intro z; cases z) fun _ _ _ _ _ _ us ws mv h1 h2 h3 => match us, h1, ws, h2, mv, h3 with | [_], _, [_], _, [_], _ => ⟨_, _, _, _, _, _, rfl, rfl, rfl⟩
theorem bks_fill_step_2 {K : PySem.W.Frag} {mg : Str → Option Value} {ca fa pa wa : Nat → Addr} {fd : Nat → FuncData} {w : World} (T : Txt K mg ca fa pa wa fd w) : BKs K (fd 5) ["way", "rows", "halt"] 1 ["halt"] [(false, 0), (true, 0)] [V.non] := bks_some (om := [("rows", V.non)]) (ps := ["way", "rows", "halt"]) (ks := ["halt"]) (fdk_sub T.FK5 (by decide)) (by intro z; cases z) fun _ _ _ _ _ _ us ws mv h1 h2 h3 => match us, h1, ws, h2, mv, h3 with | [_], _, [_], _, [_], _ => ⟨_, _, _, _, _, _, rfl, rfl, rfl⟩
theorem bks_fill_step_3 {K : PySem.W.Frag} {mg : Str → Option Value} {ca fa pa wa : Nat → Addr} {fd : Nat → FuncData} {w : World} (T : Txt K mg ca fa pa wa fd w) : BKs K (fd 5) ["way", "rows", "halt"] 1 ["halt", "rows"] [(true, 1), (true, 0)] [] := bks_all (ps := ["way", "rows", "halt"]) (ks := ["halt", "rows"]) T.F5 fun _ _ _ _ _ _ us ws h1 h2 => match us, h1, ws, h2 with | [_], _, [_, _], _ => rfl
theorem bk_fill_step {K : PySem.W.Frag} {mg : Str → Option Value} {ca fa pa wa : Nat → Addr} {fd : Nat → FuncData} {w : World} (T : Txt K mg ca fa pa wa fd w) : BK K (fd 5) ["way", "rows", "halt"] 1 ["rows", "halt"] := bk_of (ps := ["way", "rows", "halt"]) T.F5 fun _ _ _ _ _ _ us ws h1 h2 => match us, h1, ws, h2 with | [_], _, [_, _], _ => rfl
theorem bd_fill_text {K : PySem.W.Frag} {mg : Str → Option Value} {ca fa pa wa : Nat → Addr} {fd : Nat → FuncData} {w : World} (T : Txt K mg ca fa pa wa fd w) : BD K (fd 6) ["step"] [] := Mi.bd0 (ps := ["step"]) T.F6 fun _ _ _ _ _ _ us hl => match us, hl with | [_], _ => rfl
theorem bd_step_of {K : PySem.W.Frag} {mg : Str → Option Value} {ca fa pa wa : Nat → Addr} {fd : Nat → FuncData} {w : World} (T : Txt K mg ca fa pa wa fd w) : BD K (fd 7) ["text"] [] := Mi.bd0 (ps := ["text"]) T.F7 fun _ _ _ _ _ _ us hl => match us, hl with | [_], _ => rfl
theorem bd_read_fill {K : PySem.W.Frag} {mg : Str → Option Value} {ca fa pa wa : Nat → Addr} {fd : Nat → FuncData} {w : World} (T : Txt K mg ca fa pa wa fd w) : BD K (fd 8) ["text"] [] := Mi.bd0 (ps := ["text"]) T.F8 fun _ _ _ _ _ _ us hl => match us, hl with | [_], _ => rfl
theorem bd_law_pool {K : PySem.W.Frag} {mg : Str → Option Value} {ca fa pa wa : Nat → Addr} {fd : Nat → FuncData} {w : World} (T : Txt K mg ca fa pa wa fd w) : BD K (fd 9) ["_law_script"] [] := Mi.bd0 (ps := ["_law_script"]) T.F9 fun _ _ _ _ _ _ us hl => match us, hl with | [_], _ => rfl
theorem bd_law_draw {K : PySem.W.Frag} {mg : Str → Option Value} {ca fa pa wa : Nat → Addr} {fd : Nat → FuncData} {w : World} (T : Txt K mg ca fa pa wa fd w) : BD K (fd 10) ["_law_pool_here", "_law_limit_here"] [] := Mi.bd0 (ps := ["_law_pool_here", "_law_limit_here"]) T.F10 fun _ _ _ _ _ _ us hl => match us, hl with | [_, _], _ => rfl
theorem bd_law_pick {K : PySem.W.Frag} {mg : Str → Option Value} {ca fa pa wa : Nat → Addr} {fd : Nat → FuncData} {w : World} (T : Txt K mg ca fa pa wa fd w) : BD K (fd 11) ["_law_pool_here", "_law_things"] [] := Mi.bd0 (ps := ["_law_pool_here", "_law_things"]) T.F11 fun _ _ _ _ _ _ us hl => match us, hl with | [_, _], _ => rfl
theorem bd_law_letters {K : PySem.W.Frag} {mg : Str → Option Value} {ca fa pa wa : Nat → Addr} {fd : Nat → FuncData} {w : World} (T : Txt K mg ca fa pa wa fd w) : BD K (fd 12) ["_law_bits"] [] := Mi.bd0 (ps := ["_law_bits"]) T.F12 fun _ _ _ _ _ _ us hl => match us, hl with | [_], _ => rfl
theorem bd_law_whole {K : PySem.W.Frag} {mg : Str → Option Value} {ca fa pa wa : Nat → Addr} {fd : Nat → FuncData} {w : World} (T : Txt K mg ca fa pa wa fd w) : BD K (fd 13) ["_law_actual"] [] := Mi.bd0 (ps := ["_law_actual"]) T.F13 fun _ _ _ _ _ _ us hl => match us, hl with | [_], _ => rfl
theorem bd_law_set {K : PySem.W.Frag} {mg : Str → Option Value} {ca fa pa wa : Nat → Addr} {fd : Nat → FuncData} {w : World} (T : Txt K mg ca fa pa wa fd w) : BD K (fd 14) ["_law_letters_here"] [] := Mi.bd0 (ps := ["_law_letters_here"]) T.F14 fun _ _ _ _ _ _ us hl => match us, hl with | [_], _ => rfl
theorem bd_law_valid {K : PySem.W.Frag} {mg : Str → Option Value} {ca fa pa wa : Nat → Addr} {fd : Nat → FuncData} {w : World} (T : Txt K mg ca fa pa wa fd w) : BD K (fd 15) ["_law_way", "_law_limit_here", "_law_stop_here"] [] := Mi.bd0 (ps := ["_law_way", "_law_limit_here", "_law_stop_here"]) T.F15 fun _ _ _ _ _ _ us hl => match us, hl with | [_, _, _], _ => rfl
theorem bd_law_is_step {K : PySem.W.Frag} {mg : Str → Option Value} {ca fa pa wa : Nat → Addr} {fd : Nat → FuncData} {w : World} (T : Txt K mg ca fa pa wa fd w) : BD K (fd 16) ["_law_actual", "_law_due"] [] := Mi.bd0 (ps := ["_law_actual", "_law_due"]) T.F16 fun _ _ _ _ _ _ us hl => match us, hl with | [_, _], _ => rfl
theorem bd_law_made {K : PySem.W.Frag} {mg : Str → Option Value} {ca fa pa wa : Nat → Addr} {fd : Nat → FuncData} {w : World} (T : Txt K mg ca fa pa wa fd w) : BD K (fd 17) ["_law_way", "_law_limit_here", "_law_stop_here"] [] := Mi.bd0 (ps := ["_law_way", "_law_limit_here", "_law_stop_here"]) T.F17 fun _ _ _ _ _ _ us hl => match us, hl with | [_, _, _], _ => rfl
theorem bd_law_short {K : PySem.W.Frag} {mg : Str → Option Value} {ca fa pa wa : Nat → Addr} {fd : Nat → FuncData} {w : World} (T : Txt K mg ca fa pa wa fd w) : BD K (fd 18) ["_law_way", "_law_limit_here", "_law_stop_here"] [] := Mi.bd0 (ps := ["_law_way", "_law_limit_here", "_law_stop_here"]) T.F18 fun _ _ _ _ _ _ us hl => match us, hl with | [_, _, _], _ => rfl
theorem bd_law_text {K : PySem.W.Frag} {mg : Str → Option Value} {ca fa pa wa : Nat → Addr} {fd : Nat → FuncData} {w : World} (T : Txt K mg ca fa pa wa fd w) : BD K (fd 19) ["_law_step"] [] := Mi.bd0 (ps := ["_law_step"]) T.F19 fun _ _ _ _ _ _ us hl => match us, hl with | [_], _ => rfl
theorem bd_law_reading {K : PySem.W.Frag} {mg : Str → Option Value} {ca fa pa wa : Nat → Addr} {fd : Nat → FuncData} {w : World} (T : Txt K mg ca fa pa wa fd w) : BD K (fd 20) ["_law_text_here"] [] := Mi.bd0 (ps := ["_law_text_here"]) T.F20 fun _ _ _ _ _ _ us hl => match us, hl with | [_], _ => rfl
theorem bd_law_reads {K : PySem.W.Frag} {mg : Str → Option Value} {ca fa pa wa : Nat → Addr} {fd : Nat → FuncData} {w : World} (T : Txt K mg ca fa pa wa fd w) : BD K (fd 21) ["_law_text_here"] [] := Mi.bd0 (ps := ["_law_text_here"]) T.F21 fun _ _ _ _ _ _ us hl => match us, hl with | [_], _ => rfl
theorem bd_law_odd {K : PySem.W.Frag} {mg : Str → Option Value} {ca fa pa wa : Nat → Addr} {fd : Nat → FuncData} {w : World} (T : Txt K mg ca fa pa wa fd w) : BD K (fd 22) ["_law_pool_here"] [] := Mi.bd0 (ps := ["_law_pool_here"]) T.F22 fun _ _ _ _ _ _ us hl => match us, hl with | [_], _ => rfl
theorem bd_law_spoilt {K : PySem.W.Frag} {mg : Str → Option Value} {ca fa pa wa : Nat → Addr} {fd : Nat → FuncData} {w : World} (T : Txt K mg ca fa pa wa fd w) : BD K (fd 23) ["_law_pool_here", "_law_step"] [] := Mi.bd0 (ps := ["_law_pool_here", "_law_step"]) T.F23 fun _ _ _ _ _ _ us hl => match us, hl with | [_, _], _ => rfl
theorem bd_law_limit {K : PySem.W.Frag} {mg : Str → Option Value} {ca fa pa wa : Nat → Addr} {fd : Nat → FuncData} {w : World} (T : Txt K mg ca fa pa wa fd w) : BD K (fd 24) ["_law_pool_here"] [] := Mi.bd0 (ps := ["_law_pool_here"]) T.F24 fun _ _ _ _ _ _ us hl => match us, hl with | [_], _ => rfl
theorem bd_law_stop {K : PySem.W.Frag} {mg : Str → Option Value} {ca fa pa wa : Nat → Addr} {fd : Nat → FuncData} {w : World} (T : Txt K mg ca fa pa wa fd w) : BD K (fd 25) ["_law_pool_here"] [] := Mi.bd0 (ps := ["_law_pool_here"]) T.F25 fun _ _ _ _ _ _ us hl => match us, hl with | [_], _ => rfl
theorem bd_law_good {K : PySem.W.Frag} {mg : Str → Option Value} {ca fa pa wa : Nat → Addr} {fd : Nat → FuncData} {w : World} (T : Txt K mg ca fa pa wa fd w) : BD K (fd 26) ["_law_pool_here"] [] := Mi.bd0 (ps := ["_law_pool_here"]) T.F26 fun _ _ _ _ _ _ us hl => match us, hl with | [_], _ => rfl
theorem bd_law {K : PySem.W.Frag} {mg : Str → Option Value} {ca fa pa wa : Nat → Addr} {fd : Nat → FuncData} {w : World} (T : Txt K mg ca fa pa wa fd w) : BD K (fd 27) ["_law_script"] [] := Mi.bd0 (ps := ["_law_script"]) T.F27 fun _ _ _ _ _ _ us hl => match us, hl with | [_], _ => rfl
noncomputable section
abbrev tru0 : D → M Bool := truD []
abbrev eq1 : D → D → M D := eqD [] (nfL [])
abbrev isin2 : D → D → M D := inX [] tru0 false
def b_is_halt : SM :=
  (sSeq (sIf (tNotM (tVal tru0 (eIsi (fun t => List.lookup t [(.non, false), (.bl, false), (.int, false), (.str, true), (.lst, false), (.tup, false)]) (eVar 0)))) (sRet (eC (.bl false))) sNil)
  (sRet (eOp eq1 (eVar 0) (eOr tru0 (eBm "str" joinD (eC (.str "")) (aCons (eL (lComp (iVal (eC (D.str "abcdef"))) (gN 1) (tVal tru0 (eOp isin2 (eVar 1) (eVar 0))) (eVar 1) [1])) aNil)) (eC (.str "-"))))))
def m_is_halt : List D → M D := runBody 2 b_is_halt
abbrev le3 : D → D → M D := leD [] (nfL [])
def b_is_limit : SM :=
  (sSeq (sIf (tVal tru0 (eOp (isD false) (eVar 0) (eC .non))) (sRet (eC (.bl true))) sNil)
  (sRet (eAnd tru0 (eIsi (fun t => List.lookup t [(.non, false), (.bl, true), (.int, true), (.str, false), (.lst, false), (.tup, false)]) (eVar 0)) (eAnd tru0 (eNot tru0 (eIsi (fun t => List.lookup t [(.non, false), (.bl, true), (.int, false), (.str, false), (.lst, false), (.tup, false)]) (eVar 0))) (eChain le3 le3 (eC (.int 1)) (eVar 0) (eC (D.int 6)))))))
def m_is_limit : List D → M D := runBody 1 b_is_limit
def b_is_fill_step : SM :=
  (sSeq (sIf (tOrM (tNotM (tVal tru0 (eIsi (fun t => List.lookup t [(.non, false), (.bl, false), (.int, false), (.str, false), (.lst, false), (.tup, true)]) (eVar 0)))) (tVal tru0 (eOp neD (eCall (lenD []) (aCons (eVar 0) aNil)) (eC (.int 3))))) (sRet (eC (.bl false))) sNil)
  (sSeq (sIf (tVal tru0 (eOp eq1 (eVar 0) (eC (D.tup [(D.str "drop"), D.non, (D.str "-")])))) (sRet (eC (.bl true))) sNil)
  (sSeq (sUnp (gA [(gN 1), (gN 2), (gN 3)]) (eVar 0))
  (sRet (eAnd tru0 (eOp isin2 (eVar 1) (eC (D.tup [(D.str "down"), (D.str "up"), (D.str "near_above"), (D.str "near_below")]))) (eAnd tru0 (eCall (mCall 1 [] m_is_limit) (aCons (eVar 2) aNil)) (eCall (mCall 1 [] m_is_halt) (aCons (eVar 3) aNil))))))))
def m_is_fill_step : List D → M D := runBody 4 b_is_fill_step
def b_fill_step : SM :=
  (sSeq (sSet 3 (eTup (aCons (eVar 0) (aCons (eVar 1) (aCons (eVar 2) aNil)))))
  (sSeq (sIf (tNotM (tVal tru0 (eCall (mCall 1 [] m_is_fill_step) (aCons (eVar 3) aNil)))) (sRaise 16 1 ["at"] (aCons (eC (.int 0)) aNil)) sNil)
  (sRet (eVar 3))))
def m_fill_step : List D → M D := runBody 4 b_fill_step
def b_fill_text : SM :=
  (sSeq (sUnp (gA [(gN 1), (gN 2), (gN 3)]) (eVar 0))
  (sSeq (sSet 4 (eIf (tVal tru0 (eOp (isD false) (eVar 2) (eC .non))) (eC (.str "")) (eJs [(eC (.str " rows ")), (eFmt (eVar 2))])))
  (sSeq (sSet 5 (eIf (tVal tru0 (eOp eq1 (eVar 3) (eC (.str "-")))) (eC (.str "")) (eJs [(eC (.str " halt ")), (eFmt (eVar 3))])))
  (sRet (eJs [(eFmt (eVar 1)), (eFmt (eVar 4)), (eFmt (eVar 5))])))))
def m_fill_text : List D → M D := runBody 6 b_fill_text
def b_step_of : SM :=
  (sSeq (sUnpS (gN 1) (gN 2) (eBm "str" splitD (eVar 0) (aCons (eC (.str " ")) aNil)))
  (sSeq (sSet 3 (eC .non))
  (sSeq (sSet 4 (eC (.str "-")))
  (sSeq (sFor (iZipO [] (aCons (eUn (ev2D 0) (eVar 2)) (aCons (eUn (ev2D 1) (eVar 2)) aNil))) (gA [(gN 5), (gN 6)]) (sSeq (sIf (tVal tru0 (eOp eq1 (eVar 5) (eC (.str "rows")))) (sSet 3 (eKGet [("1", (D.int 1)), ("2", (D.int 2)), ("3", (D.int 3)), ("4", (D.int 4)), ("5", (D.int 5)), ("6", (D.int 6))] (eVar 6) (eC (.int 0)))) sNil)
  (sIf (tVal tru0 (eOp eq1 (eVar 5) (eC (.str "halt")))) (sSet 4 (eVar 6)) sNil)))
  (sSeq (sSet 7 (eTup (aCons (eVar 1) (aCons (eVar 3) (aCons (eVar 4) aNil)))))
  (sRet (eIf (tAndM (tVal tru0 (eCall (mCall 1 [] m_is_fill_step) (aCons (eVar 7) aNil))) (tVal tru0 (eOp eq1 (eCall (mCall 1 [] m_fill_text) (aCons (eVar 7) aNil)) (eVar 0)))) (eVar 7) (eC .non))))))))
def m_step_of : List D → M D := runBody 8 b_step_of
def b_read_fill : SM :=
  (sSeq (sSet 1 (eCall (mCall 1 [] m_step_of) (aCons (eVar 0) aNil)))
  (sSeq (sIf (tVal tru0 (eOp (isD false) (eVar 1) (eC .non))) (sRaise 4 1 ["at"] (aCons (eC (.int 0)) aNil)) sNil)
  (sRet (eVar 1))))
def m_read_fill : List D → M D := runBody 2 b_read_fill
def b_law_pool : SM :=
  (sSeq (sSet 1 (eC (.int 0)))
  (sSeq (sFor (iVal (eVar 0)) (gN 2) (sSet 1 (eOp opMod (eCall intD (aCons (eOp addL (eOp addL (eOp mulL (eVar 1) (eC (.int 31))) (eVar 2)) (eC (.int 1))) aNil)) (eC (.int 1009)))))
  (sRet (eCel (lLst (aCons (eL (lComp (iVal (eVar 0)) (gN 2) tYesM (eCall absD (aCons (eVar 2) aNil)) [2])) (aCons (eC (.int 0)) (aCons (eC (.int 0)) (aCons (eC (.int 0)) (aCons (eVar 1) aNil))))))))))
def m_law_pool : List D → M D := runBody 3 b_law_pool
def b_law_draw : SM :=
  (sSeq (sIf (tAndM (tVal tru0 (eOp eq1 (eOp ixD (eVar 0) (eC (.int 2))) (eC (.int 0)))) (tVal tru0 (eOp (cmpI fun i j => decide (i < j)) (eOp ixD (eVar 0) (eC (.int 1))) (eCall (lenD []) (aCons (eOp ixD (eVar 0) (eC (.int 0))) aNil))))) (sSeq (sSetC (eVar 0) (eC (.int 1)) (eOp addL (eOp ixD (eVar 0) (eC (.int 1))) (eC (.int 1))))
  (sSeq (sIf (tVal tru0 (eOp (cmpI fun i j => decide (i < j)) (eOp ixD (eOp ixD (eVar 0) (eC (.int 0))) (eOp (opSub []) (eOp ixD (eVar 0) (eC (.int 1))) (eC (.int 1)))) (eOp opPow (eC (.int 10)) (eC (.int 18))))) (sRet (eOp opMod (eCall intD (aCons (eOp ixD (eOp ixD (eVar 0) (eC (.int 0))) (eOp (opSub []) (eOp ixD (eVar 0) (eC (.int 1))) (eC (.int 1)))) aNil)) (eVar 1))) sNil)
  (sSetC (eVar 0) (eC (.int 2)) (eOp ixD (eOp ixD (eVar 0) (eC (.int 0))) (eOp (opSub []) (eOp ixD (eVar 0) (eC (.int 1))) (eC (.int 1))))))) sNil)
  (sSeq (sIf (tVal tru0 (eOp (cmpI fun i j => decide (j < i)) (eOp ixD (eVar 0) (eC (.int 2))) (eC (.int 0)))) (sSeq (sSet 2 (eOp opMod (eCall intD (aCons (eOp ixD (eVar 0) (eC (.int 2))) aNil)) (eVar 1)))
  (sSeq (sSetC (eVar 0) (eC (.int 2)) (eOp fdvL (eOp ixD (eVar 0) (eC (.int 2))) (eVar 1)))
  (sRet (eVar 2)))) sNil)
  (sSeq (sSetC (eVar 0) (eC (.int 3)) (eOp addL (eOp ixD (eVar 0) (eC (.int 3))) (eC (.int 1))))
  (sSeq (sSet 3 (eOp opMod (eCall intD (aCons (eOp mulL (eOp ixD (eVar 0) (eC (.int 4))) (eOp addL (eOp ixD (eVar 0) (eC (.int 3))) (eC (.int 16)))) aNil)) (eC (.int 1009))))
  (sRet (eOp opMod (eOp opMod (eCall intD (aCons (eOp addL (eOp mulL (eVar 3) (eVar 3)) (eOp mulL (eOp ixD (eVar 0) (eC (.int 4))) (eOp ixD (eVar 0) (eC (.int 3))))) aNil)) (eC (.int 997))) (eVar 1)))))))
def m_law_draw : List D → M D := runBody 4 b_law_draw
def b_law_pick : SM :=
  (sRet (eOp ixD (eVar 1) (eCall (mCall 2 [] m_law_draw) (aCons (eVar 0) (aCons (eCall (lenD []) (aCons (eVar 1) aNil)) aNil)))))
def m_law_pick : List D → M D := runBody 2 b_law_pick
def b_law_letters : SM :=
  (sSeq (sSet 1 (eC (.str "")))
  (sSeq (sFor (iVal (eC (.str "abcdef"))) (gN 2) (sSeq (sIf (tVal tru0 (eOp eq1 (eOp opMod (eCall intD (aCons (eVar 0) aNil)) (eC (.int 2))) (eC (.int 1)))) (sSet 1 (eOp addL (eVar 1) (eVar 2))) sNil)
  (sSet 0 (eOp fdvL (eVar 0) (eC (.int 2))))))
  (sSeq (sIf (tVal tru0 (eOp eq1 (eVar 1) (eC (.str "")))) (sRet (eC (.str "-"))) sNil)
  (sRet (eVar 1)))))
def m_law_letters : List D → M D := runBody 3 b_law_letters
def b_law_whole : SM :=
  (sRet (eAnd truS (eIsi (fun t => List.lookup t [(.non, false), (.bl, true), (.int, true), (.str, false), (.lst, false), (.tup, false)]) (eVar 0)) (eNot truS (eIsi (fun t => List.lookup t [(.non, false), (.bl, true), (.int, false), (.str, false), (.lst, false), (.tup, false)]) (eVar 0)))))
def m_law_whole : List D → M D := runBody 1 b_law_whole
abbrev nin4 : D → D → M D := inX [] tru0 true
def b_law_set : SM :=
  (sSeq (sSet 1 (eC (.str "")))
  (sSeq (sFor (iVal (eVar 0)) (gN 2) (sSeq (sIf (tOrM (tVal tru0 (eOp nin4 (eVar 2) (eC (.str "abcdef")))) (tVal tru0 (eOp leSt (eVar 2) (eVar 1)))) (sRet (eOp eq1 (eVar 0) (eC (.str "-")))) sNil)
  (sSet 1 (eVar 2))))
  (sRet (eOp neD (eVar 0) (eC (.str ""))))))
def m_law_set : List D → M D := runBody 3 b_law_set
def b_law_valid : SM :=
  (sSeq (sIf (tVal tru0 (eOp eq1 (eVar 0) (eC (.str "drop")))) (sRet (eAnd tru0 (eOp (isD false) (eVar 1) (eC .non)) (eOp eq1 (eVar 2) (eC (.str "-"))))) sNil)
  (sSeq (sIf (tVal tru0 (eOp nin4 (eVar 0) (eL (lLst (aCons (eC (.str "down")) (aCons (eC (.str "up")) (aCons (eC (.str "near_above")) (aCons (eC (.str "near_below")) aNil)))))))) (sRet (eC (.bl false))) sNil)
  (sSeq (sIf (tAndM (tVal tru0 (eOp (isD true) (eVar 1) (eC .non))) (tNotM (tAndM (tVal tru0 (eCall (mCall 1 [] m_law_whole) (aCons (eVar 1) aNil))) (tChainM le3 le3 tru0 (eC (.int 1)) (eVar 1) (eC (.int 6)))))) (sRet (eC (.bl false))) sNil)
  (sRet (eCall (mCall 1 [] m_law_set) (aCons (eVar 2) aNil))))))
def m_law_valid : List D → M D := runBody 3 b_law_valid
def b_law_is_step : SM :=
  (sSeq (sIf (tOrM (tNotM (tVal tru0 (eIsi (fun t => List.lookup t [(.non, false), (.bl, false), (.int, false), (.str, false), (.lst, false), (.tup, true)]) (eVar 0)))) (tVal tru0 (eOp neD (eCall (lenD []) (aCons (eVar 0) aNil)) (eC (.int 3))))) (sRet (eC (.bl false))) sNil)
  (sSeq (sIf (tOrM (tNotM (tVal tru0 (eIsi (fun t => List.lookup t [(.non, false), (.bl, false), (.int, false), (.str, true), (.lst, false), (.tup, false)]) (eOp ixD (eVar 0) (eC (.int 0)))))) (tNotM (tVal tru0 (eIsi (fun t => List.lookup t [(.non, false), (.bl, false), (.int, false), (.str, true), (.lst, false), (.tup, false)]) (eOp ixD (eVar 0) (eC (.int 2))))))) (sRet (eC (.bl false))) sNil)
  (sSeq (sIf (tAndM (tVal tru0 (eOp (isD true) (eOp ixD (eVar 0) (eC (.int 1))) (eC .non))) (tNotM (tVal tru0 (eCall (mCall 1 [] m_law_whole) (aCons (eOp ixD (eVar 0) (eC (.int 1))) aNil))))) (sRet (eC (.bl false))) sNil)
  (sRet (eOp eq1 (eVar 0) (eVar 1))))))
def m_law_is_step : List D → M D := runBody 2 b_law_is_step
abbrev sub5 : Nat → Option Bool := subL [(4, false), (16, true)]
def b_law_made : SM :=
  (sSeq (sSet 3 (eCall (mCall 3 [] m_law_valid) (aCons (eVar 0) (aCons (eVar 1) (aCons (eVar 2) aNil)))))
  (sSeq (sTryG [(sub5, some 5, (sSeq (sSet 6 (eAnd truS (eIsX (subL [(4, true), (16, true)]) 5) (eIsX (subL [(4, true), (16, true)]) 5)))
  (sSeq (sSet 6 (eAnd truS (eVar 6) (eNot truS (eIsX (subL [(4, true), (16, false)]) 5))))
  (sRet (eAnd truS (eNot truS (eVar 3)) (eAnd truS (eVar 6) (eAnd truS (eCall (mCall 1 [] m_law_whole) (aCons (eXf [4, 16] 5 "at") aNil)) (eOp eqS (eXf [4, 16] 5 "at") (eC (.int 0))))))))))] (sSet 4 (eCallK (mCallKs 1 2 3 [(true, 0), (true, 1)] [] m_fill_step) (aCons (eVar 0) aNil) (aCons (eVar 1) (aCons (eVar 2) aNil)))) sNil)
  (sRet (eAnd tru0 (eVar 3) (eCall (mCall 2 [] m_law_is_step) (aCons (eVar 4) (aCons (eTup (aCons (eVar 0) (aCons (eVar 1) (aCons (eVar 2) aNil)))) aNil)))))))
def m_law_made : List D → M D := runBody 7 b_law_made
def b_law_short : SM :=
  (sSeq (sIf (tNotM (tVal tru0 (eCall (mCall 3 [] m_law_valid) (aCons (eVar 0) (aCons (eVar 1) (aCons (eVar 2) aNil)))))) (sRet (eC (.bl true))) sNil)
  (sSeq (sOwn 3 (lLst (aCons (eCall (mCall 3 [D.non, (D.str "-")] m_fill_step) (aCons (eVar 0) aNil)) (aCons (eCallK (mCallKs 1 1 3 [(true, 0), (false, 0)] [(D.str "-")] m_fill_step) (aCons (eVar 0) aNil) (aCons (eVar 1) aNil)) (aCons (eCallK (mCallKs 1 1 3 [(false, 0), (true, 0)] [D.non] m_fill_step) (aCons (eVar 0) aNil) (aCons (eVar 2) aNil)) aNil)))))
  (sSeq (sAppO 3 (eCallK (mCallKs 1 2 3 [(true, 1), (true, 0)] [] m_fill_step) (aCons (eVar 0) aNil) (aCons (eVar 2) (aCons (eVar 1) aNil))))
  (sFrz 3 (sSeq (sIf (tNotM (tVal tru0 (eCall (mCall 2 [] m_law_is_step) (aCons (eOp ixD (eVar 3) (eC (.int 0))) (aCons (eTup (aCons (eVar 0) (aCons (eC .non) (aCons (eC (.str "-")) aNil)))) aNil))))) (sRet (eC (.bl false))) sNil)
  (sSeq (sIf (tNotM (tVal tru0 (eCall (mCall 2 [] m_law_is_step) (aCons (eOp ixD (eVar 3) (eC (.int 1))) (aCons (eTup (aCons (eVar 0) (aCons (eVar 1) (aCons (eC (.str "-")) aNil)))) aNil))))) (sRet (eC (.bl false))) sNil)
  (sSeq (sIf (tNotM (tVal tru0 (eCall (mCall 2 [] m_law_is_step) (aCons (eOp ixD (eVar 3) (eC (.int 2))) (aCons (eTup (aCons (eVar 0) (aCons (eC .non) (aCons (eVar 2) aNil)))) aNil))))) (sRet (eC (.bl false))) sNil)
  (sRet (eCall (mCall 2 [] m_law_is_step) (aCons (eOp ixD (eVar 3) (eC (.int 3))) (aCons (eTup (aCons (eVar 0) (aCons (eVar 1) (aCons (eVar 2) aNil)))) aNil)))))))))))
def m_law_short : List D → M D := runBody 4 b_law_short
def b_law_text : SM :=
  (sSeq (sSet 1 (eOp ixD (eVar 0) (eC (.int 0))))
  (sSeq (sIf (tVal tru0 (eOp (isD true) (eOp ixD (eVar 0) (eC (.int 1))) (eC .non))) (sSet 1 (eOp addL (eOp addL (eVar 1) (eC (.str " rows "))) (eCall strD (aCons (eOp ixD (eVar 0) (eC (.int 1))) aNil)))) sNil)
  (sSeq (sIf (tVal tru0 (eOp neD (eOp ixD (eVar 0) (eC (.int 2))) (eC (.str "-")))) (sSet 1 (eOp addL (eOp addL (eVar 1) (eC (.str " halt "))) (eOp ixD (eVar 0) (eC (.int 2))))) sNil)
  (sRet (eVar 1)))))
def m_law_text : List D → M D := runBody 2 b_law_text
def b_law_reading : SM :=
  (sSeq (sSet 1 (eBm "str" splitD (eVar 0) (aCons (eC (.str " ")) aNil)))
  (sSeq (sIf (tVal tru0 (eOp eq1 (eVar 1) (eL (lLst (aCons (eC (.str "drop")) aNil))))) (sRet (eTup (aCons (eC (.str "drop")) (aCons (eC .non) (aCons (eC (.str "-")) aNil))))) sNil)
  (sSeq (sSet 2 (eC .non))
  (sSeq (sSet 3 (eC (.str "-")))
  (sSeq (sSet 4 (eSl slD (eVar 1) (pSome (eC (.int 1))) pNone))
  (sSeq (sIf (tAndM (tVal tru0 (eOp eq1 (eSl slD (eVar 4) pNone (pSome (eC (.int 1)))) (eL (lLst (aCons (eC (.str "rows")) aNil))))) (tAndM (tVal tru0 (eOp (cmpI fun i j => decide (j < i)) (eCall (lenD []) (aCons (eVar 4) aNil)) (eC (.int 1)))) (tVal tru0 (eOp isin2 (eOp ixD (eVar 4) (eC (.int 1))) (eL (lLst (aCons (eC (.str "1")) (aCons (eC (.str "2")) (aCons (eC (.str "3")) (aCons (eC (.str "4")) (aCons (eC (.str "5")) (aCons (eC (.str "6")) aNil)))))))))))) (sSeq (sSet 2 (eCall intD (aCons (eOp ixD (eVar 4) (eC (.int 1))) aNil)))
  (sSet 4 (eSl slD (eVar 4) (pSome (eC (.int 2))) pNone))) sNil)
  (sSeq (sIf (tAndM (tVal tru0 (eOp eq1 (eSl slD (eVar 4) pNone (pSome (eC (.int 1)))) (eL (lLst (aCons (eC (.str "halt")) aNil))))) (tAndM (tVal tru0 (eOp (cmpI fun i j => decide (j < i)) (eCall (lenD []) (aCons (eVar 4) aNil)) (eC (.int 1)))) (tAndM (tVal tru0 (eOp neD (eOp ixD (eVar 4) (eC (.int 1))) (eC (.str "-")))) (tVal tru0 (eCall (mCall 1 [] m_law_set) (aCons (eOp ixD (eVar 4) (eC (.int 1))) aNil)))))) (sSeq (sSet 3 (eOp ixD (eVar 4) (eC (.int 1))))
  (sSet 4 (eSl slD (eVar 4) (pSome (eC (.int 2))) pNone))) sNil)
  (sSeq (sIf (tOrM (tVal tru0 (eOp neD (eVar 4) (eL (lLst aNil)))) (tVal tru0 (eOp nin4 (eOp ixD (eVar 1) (eC (.int 0))) (eL (lLst (aCons (eC (.str "down")) (aCons (eC (.str "up")) (aCons (eC (.str "near_above")) (aCons (eC (.str "near_below")) aNil))))))))) (sRet (eC .non)) sNil)
  (sRet (eTup (aCons (eOp ixD (eVar 1) (eC (.int 0))) (aCons (eVar 2) (aCons (eVar 3) aNil)))))))))))))
def m_law_reading : List D → M D := runBody 5 b_law_reading
abbrev sub6 : Nat → Option Bool := subL [(4, true), (16, false)]
def b_law_reads : SM :=
  (sSeq (sSet 1 (eCall (mCall 1 [] m_law_reading) (aCons (eVar 0) aNil)))
  (sSeq (sTryG [(sub6, some 3, (sSeq (sSet 4 (eAnd truS (eIsX (subL [(4, true), (16, true)]) 3) (eIsX (subL [(4, true), (16, true)]) 3)))
  (sSeq (sSet 4 (eAnd truS (eVar 4) (eNot truS (eIsX (subL [(4, false), (16, true)]) 3))))
  (sRet (eAnd truS (eOp (isD false) (eVar 1) (eC .non)) (eAnd truS (eVar 4) (eAnd truS (eCall (mCall 1 [] m_law_whole) (aCons (eXf [4, 16] 3 "at") aNil)) (eOp eqS (eXf [4, 16] 3 "at") (eC (.int 0))))))))))] (sSet 2 (eCall (mCall 1 [] m_read_fill) (aCons (eVar 0) aNil))) sNil)
  (sSeq (sIf (tOrM (tVal tru0 (eOp (isD false) (eVar 1) (eC .non))) (tNotM (tVal tru0 (eCall (mCall 2 [] m_law_is_step) (aCons (eVar 2) (aCons (eVar 1) aNil)))))) (sRet (eC (.bl false))) sNil)
  (sRet (eAnd tru0 (eIsi (fun t => List.lookup t [(.non, false), (.bl, false), (.int, false), (.str, true), (.lst, false), (.tup, false)]) (eCall (mCall 1 [] m_fill_text) (aCons (eVar 2) aNil))) (eOp eq1 (eCall (mCall 1 [] m_fill_text) (aCons (eVar 2) aNil)) (eVar 0)))))))
def m_law_reads : List D → M D := runBody 5 b_law_reads
def b_law_odd : SM :=
  (sSeq (sSet 1 (eL (lLst (aCons (eC (.str "")) (aCons (eC (.str "down rows None")) (aCons (eC (.str "down halt -")) (aCons (eC (.str "down rows 0")) (aCons (eC (.str "down rows 7")) (aCons (eC (.str "down rows 01")) (aCons (eC (.str "drop rows 1")) aNil))))))))))
  (sSeq (sSet 1 (eOp addL (eVar 1) (eL (lLst (aCons (eC (.str "drop halt a")) (aCons (eC (.str "down halt")) (aCons (eC (.str "down rows")) (aCons (eC (.str "rows 3")) (aCons (eC (.str "down  rows 3")) (aCons (eC (.str "down rows  3")) aNil))))))))))
  (sSeq (sSet 1 (eOp addL (eVar 1) (eL (lLst (aCons (eC (.str "drop\n")) (aCons (eC (.str "down halt a halt b")) (aCons (eC (.str "up rows 2 rows 3")) (aCons (eC (.str "down rows +3")) (aCons (eC (.str "near above")) aNil)))))))))
  (sSeq (sSet 1 (eOp addL (eVar 1) (eL (lLst (aCons (eC (.str "near_above rows 10")) (aCons (eC (.str "down\nup")) (aCons (eC (.str "halt a")) (aCons (eC (.str "down rows 3 halt")) (aCons (eC (.str "down 3")) (aCons (eC (.str "up ab")) aNil))))))))))
  (sRet (eCall (mCall 2 [] m_law_pick) (aCons (eVar 0) (aCons (eVar 1) aNil))))))))
def m_law_odd : List D → M D := runBody 2 b_law_odd
def b_law_spoilt : SM :=
  (sSeq (sSet 2 (eCall (mCall 1 [] m_law_text) (aCons (eVar 1) aNil)))
  (sSeq (sSet 3 (eBm "str" splitD (eVar 2) (aCons (eC (.str " ")) aNil)))
  (sSeq (sSet 4 (eCall (mCall 2 [] m_law_draw) (aCons (eVar 0) (aCons (eC (.int 7)) aNil))))
  (sSeq (sSet 5 (eCall (mCall 2 [] m_law_draw) (aCons (eVar 0) (aCons (eCall (lenD []) (aCons (eVar 2) aNil)) aNil))))
  (sSeq (sSet 6 (eCall (mCall 2 [] m_law_pick) (aCons (eVar 0) (aCons (eC (.str "abcdefg 0123456789rowshltnup_-D\n")) aNil))))
  (sSeq (sIf (tVal tru0 (eOp eq1 (eVar 4) (eC (.int 0)))) (sRet (eOp addL (eSl slD (eVar 2) pNone (pSome (eVar 5))) (eSl slD (eVar 2) (pSome (eOp addL (eVar 5) (eC (.int 1)))) pNone))) sNil)
  (sSeq (sIf (tVal tru0 (eOp eq1 (eVar 4) (eC (.int 1)))) (sRet (eOp addL (eOp addL (eSl slD (eVar 2) pNone (pSome (eVar 5))) (eVar 6)) (eSl slD (eVar 2) (pSome (eVar 5)) pNone))) sNil)
  (sSeq (sIf (tVal tru0 (eOp eq1 (eVar 4) (eC (.int 2)))) (sRet (eOp addL (eOp addL (eSl slD (eVar 2) pNone (pSome (eVar 5))) (eVar 6)) (eSl slD (eVar 2) (pSome (eOp addL (eVar 5) (eC (.int 1)))) pNone))) sNil)
  (sSeq (sIf (tVal tru0 (eOp eq1 (eVar 4) (eC (.int 3)))) (sRet (eBm "str" joinD (eC (.str " ")) (aCons (eOp addL (eOp addL (eSl slD (eVar 3) pNone (pSome (eC (.int 1)))) (eSl slD (eVar 3) (pSome (eC (.int 3))) pNone)) (eSl slD (eVar 3) (pSome (eC (.int 1))) (pSome (eC (.int 3))))) aNil))) sNil)
  (sSeq (sIf (tVal tru0 (eOp eq1 (eVar 4) (eC (.int 4)))) (sRet (eBm "str" joinD (eC (.str " ")) (aCons (eOp addL (eSl slD (eVar 3) pNone (pSome (eOp addL (eC (.int 1)) (eOp opMod (eVar 5) (eC (.int 5)))))) (eSl slD (eVar 3) (pSome (eOp addL (eC (.int 2)) (eOp opMod (eVar 5) (eC (.int 5))))) pNone)) aNil))) sNil)
  (sSeq (sIf (tVal tru0 (eOp eq1 (eVar 4) (eC (.int 5)))) (sRet (eBm "str" joinD (eC (.str " ")) (aCons (eOp addL (eSl slD (eVar 3) pNone (pSome (eOp addL (eC (.int 1)) (eOp opMod (eVar 5) (eC (.int 5)))))) (eSl slD (eVar 3) (pSome (eOp opMod (eVar 5) (eC (.int 5)))) pNone)) aNil))) sNil)
  (sRet (eCall (mCall 1 [] m_law_odd) (aCons (eVar 0) aNil))))))))))))))
def m_law_spoilt : List D → M D := runBody 7 b_law_spoilt
def b_law_limit : SM :=
  (sRet (eCall (mCall 2 [] m_law_pick) (aCons (eVar 0) (aCons (eL (lLst (aCons (eC (.int 3)) (aCons (eC .non) (aCons (eC (.int 1)) (aCons (eC (.int 2)) (aCons (eC (.int 4)) (aCons (eC (.int 5)) (aCons (eC (.int 6)) (aCons (eC .non) (aCons (eC (.int 0)) (aCons (eC (.int 7)) (aCons (eUn unNeg (eC (.int 1))) (aCons (eOp opPow (eC (.int 10)) (eC (.int 30))) (aCons (eC (.bl true)) (aCons (eC (.bl false)) (aCons (eUn unNeg (eC (.int 3))) (aCons (eC (.int 60)) aNil)))))))))))))))))) aNil))))
def m_law_limit : List D → M D := runBody 1 b_law_limit
def b_law_stop : SM :=
  (sSeq (sSet 1 (eL (lLst (aCons (eC (.str "")) (aCons (eC (.str "ba")) (aCons (eC (.str "aa")) (aCons (eC (.str "ag")) (aCons (eC (.str "A")) (aCons (eC (.str "a-")) (aCons (eC (.str "--")) (aCons (eC (.str " ")) (aCons (eC (.str "a b")) (aCons (eC (.str "fa")) (aCons (eC (.str "abcdefg")) (aCons (eC (.str "a\n")) aNil)))))))))))))))
  (sSeq (sIf (tVal tru0 (eOp eq1 (eCall (mCall 2 [] m_law_draw) (aCons (eVar 0) (aCons (eC (.int 4)) aNil))) (eC (.int 3)))) (sRet (eCall (mCall 2 [] m_law_pick) (aCons (eVar 0) (aCons (eVar 1) aNil)))) sNil)
  (sRet (eCall (mCall 1 [] m_law_letters) (aCons (eOp opMod (eOp addL (eCall (mCall 2 [] m_law_draw) (aCons (eVar 0) (aCons (eC (.int 64)) aNil))) (eC (.int 5))) (eC (.int 64))) aNil)))))
def m_law_stop : List D → M D := runBody 2 b_law_stop
def b_law_good : SM :=
  (sSeq (sSet 1 (eCall (mCall 2 [] m_law_pick) (aCons (eVar 0) (aCons (eL (lLst (aCons (eC (.str "near_above")) (aCons (eC (.str "down")) (aCons (eC (.str "up")) (aCons (eC (.str "near_below")) (aCons (eC (.str "drop")) aNil))))))) aNil))))
  (sSeq (sIf (tVal tru0 (eOp eq1 (eVar 1) (eC (.str "drop")))) (sRet (eTup (aCons (eC (.str "drop")) (aCons (eC .non) (aCons (eC (.str "-")) aNil))))) sNil)
  (sSeq (sSet 2 (eCall (mCall 2 [] m_law_pick) (aCons (eVar 0) (aCons (eL (lLst (aCons (eC (.int 2)) (aCons (eC .non) (aCons (eC (.int 1)) (aCons (eC (.int 3)) (aCons (eC (.int 4)) (aCons (eC (.int 5)) (aCons (eC (.int 6)) aNil))))))))) aNil))))
  (sRet (eTup (aCons (eVar 1) (aCons (eVar 2) (aCons (eCall (mCall 1 [] m_law_letters) (aCons (eOp opMod (eOp addL (eCall (mCall 2 [] m_law_draw) (aCons (eVar 0) (aCons (eC (.int 64)) aNil))) (eC (.int 6))) (eC (.int 64))) aNil)) aNil))))))))
def m_law_good : List D → M D := runBody 3 b_law_good
def b_law : SM :=
  (sSeq (sSet 1 (eCall (mCall 1 [] m_law_pool) (aCons (eVar 0) aNil)))
  (sSeq (sSet 2 (eL (lLst (aCons (eC (.str "down")) (aCons (eC (.str "up")) (aCons (eC (.str "near_above")) (aCons (eC (.str "near_below")) (aCons (eC (.str "drop")) (aCons (eC (.str "side")) (aCons (eC (.str "near")) (aCons (eC (.str "Down")) (aCons (eC (.str "")) (aCons (eC (.str "down rows 1")) aNil)))))))))))))
  (sSeq (sFor (iR1 (aCons (eC (.int 3)) aNil)) (gN 3) (sSeq (sSet 4 (eOp ixD (eVar 2) (eOp opMod (eOp addL (eCall (mCall 2 [] m_law_draw) (aCons (eVar 1) (aCons (eC (.int 10)) aNil))) (eOp mulL (eC (.int 2)) (eVar 3))) (eC (.int 10)))))
  (sSeq (sSet 5 (eCall (mCall 1 [] m_law_limit) (aCons (eVar 1) aNil)))
  (sSeq (sSet 6 (eCall (mCall 1 [] m_law_stop) (aCons (eVar 1) aNil)))
  (sSeq (sFor (iVal (eL (lLst (aCons (eVar 5) (aCons (eC .non) aNil))))) (gN 7) (sIf (tOrM (tNotM (tVal tru0 (eCall (mCall 3 [] m_law_made) (aCons (eVar 4) (aCons (eVar 7) (aCons (eVar 6) aNil)))))) (tNotM (tVal tru0 (eCall (mCall 3 [] m_law_made) (aCons (eVar 4) (aCons (eVar 7) (aCons (eC (.str "-")) aNil))))))) (sRet (eC (.bl false))) sNil))
  (sIf (tNotM (tVal tru0 (eCall (mCall 3 [] m_law_short) (aCons (eVar 4) (aCons (eVar 5) (aCons (eVar 6) aNil)))))) (sRet (eC (.bl false))) sNil))))))
  (sSeq (sSet 8 (eCall (mCall 1 [] m_law_good) (aCons (eVar 1) aNil)))
  (sSeq (sOwn 9 (lLst (aCons (eCall (mCall 1 [] m_law_text) (aCons (eVar 8) aNil)) (aCons (eCall (mCall 1 [] m_law_odd) (aCons (eVar 1) aNil)) aNil))))
  (sSeq (sFor (iR1 (aCons (eC (.int 3)) aNil)) (gN 3) (sAppO 9 (eCall (mCall 2 [] m_law_spoilt) (aCons (eVar 1) (aCons (eVar 8) aNil)))))
  (sFrz 9 (sSeq (sFor (iVal (eVar 9)) (gN 10) (sIf (tNotM (tVal tru0 (eCall (mCall 1 [] m_law_reads) (aCons (eVar 10) aNil)))) (sRet (eC (.bl false))) sNil))
  (sSeq (sSet 10 (eCall (mCall 1 [] m_law_text) (aCons (eVar 8) aNil)))
  (sRet (eAnd tru0 (eOp eq1 (eCall (mCall 1 [] m_fill_text) (aCons (eVar 8) aNil)) (eVar 10)) (eCall (mCall 2 [] m_law_is_step) (aCons (eCall (mCall 1 [] m_read_fill) (aCons (eVar 10) aNil)) (aCons (eVar 8) aNil))))))))))))))
def m_law : List D → M D := runBody 11 b_law
end
end W19
namespace W19
open PySem PySem.Spec PyProof.Rows L2 ClX ItX Mi
abbrev aC4 (K : PySem.W.Frag) : Addr := He.ga K "BadText"
abbrev aF0 (K : PySem.W.Frag) : Addr := fnA K (aC4 K) "__init__"
abbrev aC16 (K : PySem.W.Frag) : Addr := He.ga K "BadStep"
abbrev aF1 (K : PySem.W.Frag) : Addr := fnA K (aC16 K) "__init__"
abbrev aF2 (K : PySem.W.Frag) : Addr := He.ga K "is_halt"
abbrev aC43 (K : PySem.W.Frag) : Addr := He.ga K "Marks"
abbrev aF3 (K : PySem.W.Frag) : Addr := He.ga K "is_limit"
abbrev aF4 (K : PySem.W.Frag) : Addr := He.ga K "is_fill_step"
abbrev aW0 (K : PySem.W.Frag) : Addr := He.ga K "DROP_STEP"
abbrev aW1 (K : PySem.W.Frag) : Addr := He.ga K "FILL_WAYS"
abbrev aF5 (K : PySem.W.Frag) : Addr := He.ga K "fill_step"
abbrev aF6 (K : PySem.W.Frag) : Addr := He.ga K "fill_text"
abbrev aF7 (K : PySem.W.Frag) : Addr := He.ga K "step_of"
abbrev aF8 (K : PySem.W.Frag) : Addr := He.ga K "read_fill"
abbrev aF9 (K : PySem.W.Frag) : Addr := He.ga K "_law_pool"
abbrev aF10 (K : PySem.W.Frag) : Addr := He.ga K "_law_draw"
abbrev aF11 (K : PySem.W.Frag) : Addr := He.ga K "_law_pick"
abbrev aF12 (K : PySem.W.Frag) : Addr := He.ga K "_law_letters"
abbrev aF13 (K : PySem.W.Frag) : Addr := He.ga K "_law_whole"
abbrev aF14 (K : PySem.W.Frag) : Addr := He.ga K "_law_set"
abbrev aF15 (K : PySem.W.Frag) : Addr := He.ga K "_law_valid"
abbrev aF16 (K : PySem.W.Frag) : Addr := He.ga K "_law_is_step"
abbrev aF17 (K : PySem.W.Frag) : Addr := He.ga K "_law_made"
abbrev aC0 (K : PySem.W.Frag) : Addr := He.ga K "BureauError"
abbrev aF18 (K : PySem.W.Frag) : Addr := He.ga K "_law_short"
abbrev aF19 (K : PySem.W.Frag) : Addr := He.ga K "_law_text"
abbrev aF20 (K : PySem.W.Frag) : Addr := He.ga K "_law_reading"
abbrev aF21 (K : PySem.W.Frag) : Addr := He.ga K "_law_reads"
abbrev aF22 (K : PySem.W.Frag) : Addr := He.ga K "_law_odd"
abbrev aF23 (K : PySem.W.Frag) : Addr := He.ga K "_law_spoilt"
abbrev aF24 (K : PySem.W.Frag) : Addr := He.ga K "_law_limit"
abbrev aF25 (K : PySem.W.Frag) : Addr := He.ga K "_law_stop"
abbrev aF26 (K : PySem.W.Frag) : Addr := He.ga K "_law_good"
abbrev aF27 (K : PySem.W.Frag) : Addr := He.ga K "law"
def hChk (K : PySem.W.Frag) : List Bool := [decide (PySem.W.nsIn K mainGlobals "BadText" = some (some (.ref (aC4 K)))),
  decide (PySem.W.findIn K (.ref (aC4 K)) "__init__" = some (some (.ref (aF0 K)))),
  decide (PySem.W.findIn K (.ref (aC4 K)) "__setattr__" = some (some (.builtin "object.__setattr__"))),
  decide (PySem.W.subIn K (.ref (aC4 K)) (.type "BaseException") = some true),
  decide (PySem.W.typeIn K (.ref (aC4 K)) = some (.type "type")),
  PySem.W.keepIn K (.ref (aC4 K)),
  oxB K (aC4 K),
  decide (PySem.W.findIn K (.ref (aC4 K)) "at" = some none),
  decide (PySem.W.nsIn K mainGlobals "BadStep" = some (some (.ref (aC16 K)))),
  decide (PySem.W.findIn K (.ref (aC16 K)) "__init__" = some (some (.ref (aF1 K)))),
  decide (PySem.W.findIn K (.ref (aC16 K)) "__setattr__" = some (some (.builtin "object.__setattr__"))),
  decide (PySem.W.subIn K (.ref (aC16 K)) (.type "BaseException") = some true),
  decide (PySem.W.typeIn K (.ref (aC16 K)) = some (.type "type")),
  PySem.W.keepIn K (.ref (aC16 K)),
  oxB K (aC16 K),
  decide (PySem.W.findIn K (.ref (aC16 K)) "at" = some none),
  decide (PySem.W.nsIn K mainGlobals "is_halt" = some (some (.ref (aF2 K)))),
  decide (PySem.W.nsIn K mainGlobals "isinstance" = some none),
  decide (PySem.W.nsIn K mainGlobals "str" = some none),
  decide (PySem.W.kitOne K (.type "NoneType") (.type "str") = some false),
  decide (PySem.W.kitOne K (.type "bool") (.type "str") = some false),
  decide (PySem.W.kitOne K (.type "int") (.type "str") = some false),
  decide (PySem.W.kitOne K (.type "str") (.type "str") = some true),
  decide (PySem.W.kitOne K (.type "list") (.type "str") = some false),
  decide (PySem.W.kitOne K (.type "tuple") (.type "str") = some false),
  decide (PySem.W.nsIn K mainGlobals "Marks" = some (some (.ref (aC43 K)))),
  PySem.W.readsIn K (aC43 K) (.type "type"),
  decide (PySem.W.specialIn K (.ref (aC43 K)) "__getattribute__" = some (some (.builtin "type.__getattribute__"))),
  cvB K (aC43 K) "ALL" (V.str "abcdef"),
  decide (PySem.W.nsIn K mainGlobals "is_limit" = some (some (.ref (aF3 K)))),
  decide (PySem.W.nsIn K mainGlobals "int" = some none),
  decide (PySem.W.kitOne K (.type "NoneType") (.type "int") = some false),
  decide (PySem.W.kitOne K (.type "bool") (.type "int") = some true),
  decide (PySem.W.kitOne K (.type "int") (.type "int") = some true),
  decide (PySem.W.kitOne K (.type "str") (.type "int") = some false),
  decide (PySem.W.kitOne K (.type "list") (.type "int") = some false),
  decide (PySem.W.kitOne K (.type "tuple") (.type "int") = some false),
  decide (PySem.W.nsIn K mainGlobals "bool" = some none),
  decide (PySem.W.kitOne K (.type "NoneType") (.type "bool") = some false),
  decide (PySem.W.kitOne K (.type "bool") (.type "bool") = some true),
  decide (PySem.W.kitOne K (.type "int") (.type "bool") = some false),
  decide (PySem.W.kitOne K (.type "str") (.type "bool") = some false),
  decide (PySem.W.kitOne K (.type "list") (.type "bool") = some false),
  decide (PySem.W.kitOne K (.type "tuple") (.type "bool") = some false),
  gcB K "MOST_ROWS" (V.int 6),
  decide (PySem.W.nsIn K mainGlobals "is_fill_step" = some (some (.ref (aF4 K)))),
  decide (PySem.W.nsIn K mainGlobals "tuple" = some none),
  decide (PySem.W.kitOne K (.type "NoneType") (.type "tuple") = some false),
  decide (PySem.W.kitOne K (.type "bool") (.type "tuple") = some false),
  decide (PySem.W.kitOne K (.type "int") (.type "tuple") = some false),
  decide (PySem.W.kitOne K (.type "str") (.type "tuple") = some false),
  decide (PySem.W.kitOne K (.type "list") (.type "tuple") = some false),
  decide (PySem.W.kitOne K (.type "tuple") (.type "tuple") = some true),
  decide (PySem.W.nsIn K mainGlobals "len" = some none),
  tupB K (aW0 K) [(V.str "drop"), V.non, (V.str "-")],
  decide (PySem.W.nsIn K mainGlobals "DROP_STEP" = some (some (.ref (aW0 K)))),
  tupB K (aW1 K) [(V.str "down"), (V.str "up"), (V.str "near_above"), (V.str "near_below")],
  decide (PySem.W.nsIn K mainGlobals "FILL_WAYS" = some (some (.ref (aW1 K)))),
  decide (PySem.W.nsIn K mainGlobals "fill_step" = some (some (.ref (aF5 K)))),
  decide (PySem.W.typeIn K (.ref (aF1 K)) = some (.type "function")),
  decide (PySem.W.nsIn K mainGlobals "fill_text" = some (some (.ref (aF6 K)))),
  decide (PySem.W.nsIn K mainGlobals "step_of" = some (some (.ref (aF7 K)))),
  decide (PySem.W.nsIn K mainGlobals "zip" = some none),
  decide (PySem.W.nsIn K mainGlobals "NUMBERS" = some (some (.ref (He.ga K "NUMBERS")))),
  ktB K (He.ga K "NUMBERS") [("1", (V.int 1)), ("2", (V.int 2)), ("3", (V.int 3)), ("4", (V.int 4)), ("5", (V.int 5)), ("6", (V.int 6))],
  decide (PySem.W.nsIn K mainGlobals "read_fill" = some (some (.ref (aF8 K)))),
  decide (PySem.W.typeIn K (.ref (aF0 K)) = some (.type "function")),
  decide (PySem.W.nsIn K mainGlobals "_law_pool" = some (some (.ref (aF9 K)))),
  decide (PySem.W.nsIn K mainGlobals "abs" = some none),
  decide (PySem.W.nsIn K mainGlobals "_law_draw" = some (some (.ref (aF10 K)))),
  decide (PySem.W.nsIn K mainGlobals "_law_pick" = some (some (.ref (aF11 K)))),
  decide (PySem.W.nsIn K mainGlobals "_law_letters" = some (some (.ref (aF12 K)))),
  decide (PySem.W.nsIn K mainGlobals "_law_whole" = some (some (.ref (aF13 K)))),
  decide (PySem.W.nsIn K mainGlobals "_law_set" = some (some (.ref (aF14 K)))),
  decide (PySem.W.nsIn K mainGlobals "_law_valid" = some (some (.ref (aF15 K)))),
  decide (PySem.W.nsIn K mainGlobals "_law_is_step" = some (some (.ref (aF16 K)))),
  decide (PySem.W.nsIn K mainGlobals "_law_made" = some (some (.ref (aF17 K)))),
  kwB K (aF5 K) [("rows", V.non), ("halt", (V.str "-"))],
  decide (PySem.W.exmOne K (.ref (aC16 K)) (.ref (aC16 K)) = some true),
  decide (PySem.W.exmOne K (.ref (aC4 K)) (.ref (aC16 K)) = some false),
  decide (PySem.W.nsIn K mainGlobals "BureauError" = some (some (.ref (aC0 K)))),
  decide (PySem.W.kitOne K (.ref (aC16 K)) (.ref (aC0 K)) = some true),
  decide (PySem.W.findIn K (.ref (aC16 K)) "__getattribute__" = some (some (.builtin "BaseException.__getattribute__"))),
  decide (PySem.W.findIn K (.ref (aC16 K)) "__getattr__" = some none),
  PySem.W.hasDictIn K (aC16 K),
  decide (PySem.W.findIn K (.ref (aC16 K)) "__class__" = some (some (.builtin "object.__class__"))),
  decide (PySem.W.specialIn K (.builtin "object.__class__") "__get__" = some (some (.builtin "getset_descriptor.__get__"))),
  decide (PySem.W.takesIn K (.builtin "object.__class__") = some true),
  decide (PySem.W.mroIn K (aC16 K) (.type "object") = some true),
  PySem.W.isClsIn K (aC16 K),
  decide (PySem.W.kitOne K (.ref (aC4 K)) (.ref (aC0 K)) = some true),
  decide (PySem.W.findIn K (.ref (aC4 K)) "__getattribute__" = some (some (.builtin "BaseException.__getattribute__"))),
  decide (PySem.W.findIn K (.ref (aC4 K)) "__getattr__" = some none),
  PySem.W.hasDictIn K (aC4 K),
  decide (PySem.W.findIn K (.ref (aC4 K)) "__class__" = some (some (.builtin "object.__class__"))),
  decide (PySem.W.mroIn K (aC4 K) (.type "object") = some true),
  PySem.W.isClsIn K (aC4 K),
  decide (PySem.W.nsIn K mainGlobals "ValueError" = some none),
  decide (PySem.W.kitOne K (.ref (aC16 K)) (.type "ValueError") = some true),
  decide (PySem.W.kitOne K (.ref (aC4 K)) (.type "ValueError") = some true),
  decide (PySem.W.kitOne K (.ref (aC16 K)) (.ref (aC4 K)) = some false),
  decide (PySem.W.kitOne K (.ref (aC4 K)) (.ref (aC4 K)) = some true),
  decide (PySem.W.nsIn K mainGlobals "_law_short" = some (some (.ref (aF18 K)))),
  decide (PySem.W.nsIn K mainGlobals "_law_text" = some (some (.ref (aF19 K)))),
  decide (PySem.W.nsIn K mainGlobals "_law_reading" = some (some (.ref (aF20 K)))),
  decide (PySem.W.nsIn K mainGlobals "_law_reads" = some (some (.ref (aF21 K)))),
  decide (PySem.W.exmOne K (.ref (aC16 K)) (.ref (aC4 K)) = some false),
  decide (PySem.W.exmOne K (.ref (aC4 K)) (.ref (aC4 K)) = some true),
  decide (PySem.W.kitOne K (.ref (aC16 K)) (.ref (aC16 K)) = some true),
  decide (PySem.W.kitOne K (.ref (aC4 K)) (.ref (aC16 K)) = some false),
  decide (PySem.W.nsIn K mainGlobals "_law_odd" = some (some (.ref (aF22 K)))),
  decide (PySem.W.nsIn K mainGlobals "_law_spoilt" = some (some (.ref (aF23 K)))),
  decide (PySem.W.nsIn K mainGlobals "_law_limit" = some (some (.ref (aF24 K)))),
  decide (PySem.W.nsIn K mainGlobals "_law_stop" = some (some (.ref (aF25 K)))),
  decide (PySem.W.nsIn K mainGlobals "_law_good" = some (some (.ref (aF26 K)))),
  decide (PySem.W.nsIn K mainGlobals "law" = some (some (.ref (aF27 K)))),
  decide (PySem.W.nsIn K mainGlobals "range" = some none)]
def hFn : List DefM := [⟨aF0, "__init__", "BadText.__init__", s_BadText, fun K => []⟩,
  ⟨aF1, "__init__", "BadStep.__init__", s_BadStep, fun K => []⟩,
  ⟨aF2, "is_halt", "is_halt", s_is_halt, fun K => []⟩,
  ⟨aF3, "is_limit", "is_limit", s_is_limit, fun K => []⟩,
  ⟨aF4, "is_fill_step", "is_fill_step", s_is_fill_step, fun K => []⟩,
  ⟨aF5, "fill_step", "fill_step", s_fill_step, fun K => []⟩,
  ⟨aF6, "fill_text", "fill_text", s_fill_text, fun K => []⟩,
  ⟨aF7, "step_of", "step_of", s_step_of, fun K => []⟩,
  ⟨aF8, "read_fill", "read_fill", s_read_fill, fun K => []⟩,
  ⟨aF9, "_law_pool", "_law_pool", s_law_pool, fun K => []⟩,
  ⟨aF10, "_law_draw", "_law_draw", s_law_draw, fun K => []⟩,
  ⟨aF11, "_law_pick", "_law_pick", s_law_pick, fun K => []⟩,
  ⟨aF12, "_law_letters", "_law_letters", s_law_letters, fun K => []⟩,
  ⟨aF13, "_law_whole", "_law_whole", s_law_whole, fun K => []⟩,
  ⟨aF14, "_law_set", "_law_set", s_law_set, fun K => []⟩,
  ⟨aF15, "_law_valid", "_law_valid", s_law_valid, fun K => []⟩,
  ⟨aF16, "_law_is_step", "_law_is_step", s_law_is_step, fun K => []⟩,
  ⟨aF17, "_law_made", "_law_made", s_law_made, fun K => []⟩,
  ⟨aF18, "_law_short", "_law_short", s_law_short, fun K => []⟩,
  ⟨aF19, "_law_text", "_law_text", s_law_text, fun K => []⟩,
  ⟨aF20, "_law_reading", "_law_reading", s_law_reading, fun K => []⟩,
  ⟨aF21, "_law_reads", "_law_reads", s_law_reads, fun K => []⟩,
  ⟨aF22, "_law_odd", "_law_odd", s_law_odd, fun K => []⟩,
  ⟨aF23, "_law_spoilt", "_law_spoilt", s_law_spoilt, fun K => []⟩,
  ⟨aF24, "_law_limit", "_law_limit", s_law_limit, fun K => []⟩,
  ⟨aF25, "_law_stop", "_law_stop", s_law_stop, fun K => []⟩,
  ⟨aF26, "_law_good", "_law_good", s_law_good, fun K => []⟩,
  ⟨aF27, "law", "law", s_law, fun K => []⟩]
def hTabs : List (Str × List Str) := [("NUMBERS", ["1", "2", "3", "4", "5", "6"])]
end W19
namespace W19
open PySem PySem.W PySem.Calls PyProof.Rows
def hAs : List Addr := mainGlobals :: Mi.downFrom 3000
def hN0 : List PySem.Str := [PySem.Str.ofString "BureauError", PySem.Str.ofString "BadMarks", PySem.Str.ofString "BadText", PySem.Str.ofString "BadStep", PySem.Str.ofString "is_mark", PySem.Str.ofString "in_order", PySem.Str.ofString "Marks", PySem.Str.ofString "FILL_WAYS", PySem.Str.ofString "DROP_STEP", PySem.Str.ofString "MOST_ROWS", PySem.Str.ofString "NUMBERS", PySem.Str.ofString "is_halt", PySem.Str.ofString "is_limit", PySem.Str.ofString "is_fill_step", PySem.Str.ofString "fill_step", PySem.Str.ofString "fill_text", PySem.Str.ofString "step_of", PySem.Str.ofString "read_fill", PySem.Str.ofString "_law_pool", PySem.Str.ofString "_law_draw", PySem.Str.ofString "_law_pick", PySem.Str.ofString "_law_letters", PySem.Str.ofString "_law_whole", PySem.Str.ofString "_law_set", PySem.Str.ofString "_law_valid", PySem.Str.ofString "_law_is_step", PySem.Str.ofString "_law_made", PySem.Str.ofString "_law_short", PySem.Str.ofString "_law_text", PySem.Str.ofString "_law_reading", PySem.Str.ofString "_law_reads", PySem.Str.ofString "_law_odd", PySem.Str.ofString "_law_spoilt", PySem.Str.ofString "_law_limit", PySem.Str.ofString "_law_stop", PySem.Str.ofString "_law_good"]
def hNs : List PySem.Str := hN0
abbrev hR : OpenRow := OpenLaw.row PySem.Challenge.rw_pagebureau_k19_fill_text_and_refusals
abbrev hHk : Hook := Mi.hookD hAs hChk hFn hTabs
def hOb (s : SharedT) : Mi.AlD := Mi.obsD hChk hFn hTabs (He.frG (HandSHeadRun.getT s) hAs)
theorem hOb_eq (s : SharedT) : hOb s = hHk.obs s.abs := Mi.obsD_eq (HandSHeadRun.getT_eq s)
set_option maxRecDepth 100000 in
set_option maxHeartbeats 0 in
theorem hLkf (w : World) (os : OsState) : (HandSHeadRun.endF (HandSHeadRun.stepQ (HandSHeadRun.denQ HandSHeadRun.tabQ) hR.prog (w.withFollow "special-get-raises" false)) 20000 hR.prog (w.withFollow "special-get-raises" false) os).map (fun s => (HandSHeadRun.looksF hR.prog (boot_heap (w.withFollow "special-get-raises" false).params) s.abs, HandSHeadRun.seenQ (view hR.prog [40]) hNs (importedModules hR.prog.main.body) (fun s => xlAt (view hR.prog [40]) [] s && recOk hR.toRowW.records s) s.abs)) = some (true, openGood (view hR.prog [40]) hNs) := by kernel_rfl
set_option maxRecDepth 100000 in
set_option maxHeartbeats 0 in
theorem hOkf_m (w : World) (os : OsState) : (HandSHeadRun.endF (HandSHeadRun.stepQ (HandSHeadRun.denQ HandSHeadRun.tabQ) hR.prog (w.withFollow "special-get-raises" false)) 20000 hR.prog (w.withFollow "special-get-raises" false) os).map (fun s => Mi.obsM hChk hFn (He.frG (HandSHeadRun.getT s) hAs)) = some (Mi.valM hFn) := by kernel_rfl
set_option maxRecDepth 100000 in
set_option maxHeartbeats 0 in
theorem hOkf_t (w : World) (os : OsState) : (HandSHeadRun.endF (HandSHeadRun.stepQ (HandSHeadRun.denQ HandSHeadRun.tabQ) hR.prog (w.withFollow "special-get-raises" false)) 20000 hR.prog (w.withFollow "special-get-raises" false) os).map (fun s => hTabs.map fun t => He.dicW (He.frG (HandSHeadRun.getT s) hAs) (He.ga (He.frG (HandSHeadRun.getT s) hAs) t.1)) = some (hTabs.map fun t => some (He.keysIn (w.withFollow "special-get-raises" false).params t.2)) := by kernel_rfl
theorem hOkf (w : World) (os : OsState) : (HandSHeadRun.endF (HandSHeadRun.stepQ (HandSHeadRun.denQ HandSHeadRun.tabQ) hR.prog (w.withFollow "special-get-raises" false)) 20000 hR.prog (w.withFollow "special-get-raises" false) os).map hOb = some (hHk.val (w.withFollow "special-get-raises" false)) := Mi.obsD_of (kf := fun s => He.frG (HandSHeadRun.getT s) hAs) (hOkf_m w os) (hOkf_t w os)
theorem hRunf (w : World) : HandSHeadRun.RunEq hR (view hR.prog [40]) hHk hOb 20000 hNs (w.withFollow "special-get-raises" false) := Mi.runM (hLkf w) (hOkf w)
set_option maxRecDepth 100000 in
set_option maxHeartbeats 0 in
theorem hLkt (w : World) (os : OsState) : (HandSHeadRun.endF (HandSHeadRun.stepQ (HandSHeadRun.denQ HandSHeadRun.tabQ) hR.prog (w.withFollow "special-get-raises" true)) 20000 hR.prog (w.withFollow "special-get-raises" true) os).map (fun s => (HandSHeadRun.looksF hR.prog (boot_heap (w.withFollow "special-get-raises" true).params) s.abs, HandSHeadRun.seenQ (view hR.prog [40]) hNs (importedModules hR.prog.main.body) (fun s => xlAt (view hR.prog [40]) [] s && recOk hR.toRowW.records s) s.abs)) = some (true, openGood (view hR.prog [40]) hNs) := by kernel_rfl
set_option maxRecDepth 100000 in
set_option maxHeartbeats 0 in
theorem hOkt_m (w : World) (os : OsState) : (HandSHeadRun.endF (HandSHeadRun.stepQ (HandSHeadRun.denQ HandSHeadRun.tabQ) hR.prog (w.withFollow "special-get-raises" true)) 20000 hR.prog (w.withFollow "special-get-raises" true) os).map (fun s => Mi.obsM hChk hFn (He.frG (HandSHeadRun.getT s) hAs)) = some (Mi.valM hFn) := by kernel_rfl
set_option maxRecDepth 100000 in
set_option maxHeartbeats 0 in
theorem hOkt_t (w : World) (os : OsState) : (HandSHeadRun.endF (HandSHeadRun.stepQ (HandSHeadRun.denQ HandSHeadRun.tabQ) hR.prog (w.withFollow "special-get-raises" true)) 20000 hR.prog (w.withFollow "special-get-raises" true) os).map (fun s => hTabs.map fun t => He.dicW (He.frG (HandSHeadRun.getT s) hAs) (He.ga (He.frG (HandSHeadRun.getT s) hAs) t.1)) = some (hTabs.map fun t => some (He.keysIn (w.withFollow "special-get-raises" true).params t.2)) := by kernel_rfl
theorem hOkt (w : World) (os : OsState) : (HandSHeadRun.endF (HandSHeadRun.stepQ (HandSHeadRun.denQ HandSHeadRun.tabQ) hR.prog (w.withFollow "special-get-raises" true)) 20000 hR.prog (w.withFollow "special-get-raises" true) os).map hOb = some (hHk.val (w.withFollow "special-get-raises" true)) := Mi.obsD_of (kf := fun s => He.frG (HandSHeadRun.getT s) hAs) (hOkt_m w os) (hOkt_t w os)
theorem hRunt (w : World) : HandSHeadRun.RunEq hR (view hR.prog [40]) hHk hOb 20000 hNs (w.withFollow "special-get-raises" true) := Mi.runM (hLkt w) (hOkt w)
theorem hRun (w : World) : HandSHeadRun.RunEq hR (view hR.prog [40]) hHk hOb 20000 hNs w := byRow2 "special-get-raises" (P := fun w => HandSHeadRun.RunEq hR (view hR.prog [40]) hHk hOb 20000 hNs w) hRunf hRunt w
end W19
namespace W19
open PySem PySem.Spec PyProof.Rows L2 ClX ItX Mi
theorem ok_BadText {P : Program} {w : World} {K : PySem.W.Frag} {mg : Str → Option Value} {base : Heap} {ca fa pa wa : Nat → Addr} {fd : Nat → FuncData} (T : Txt K mg ca fa pa wa fd w) : FnOk P w K mg base (L2.CX P w) 1 (fa 0) (fd 0) ["self", "at"] (spX (ca 4) ["at"]) :=
  x_init1 T.F0 sc_BadText T.ox4 T.na4_at fun cdv A outer s H E => pss_one (ps_ost (pv 0) (pv 1))
theorem ok_BadStep {P : Program} {w : World} {K : PySem.W.Frag} {mg : Str → Option Value} {base : Heap} {ca fa pa wa : Nat → Addr} {fd : Nat → FuncData} (T : Txt K mg ca fa pa wa fd w) : FnOk P w K mg base (L2.CX P w) 1 (fa 1) (fd 1) ["self", "at"] (spX (ca 16) ["at"]) :=
  x_init1 T.F1 sc_BadStep T.ox16 T.na16_at fun cdv A outer s H E => pss_one (ps_ost (pv 0) (pv 1))
theorem tr0 {G : Gx} {fa pa wa : Nat → Addr} {fd : Nat → FuncData} (T : Txt G.X.K G.X.mg G.ca fa pa wa fd G.X.w) (tk : Takes G.X G.E) (hr : Room 1 G.X.A) : TrD G tru0 :=
  td_tru (k := 0) tk hr tb_nil xb_nil
end W19
namespace W19
open PySem PySem.Spec PyProof.Rows L2 ClX ItX Mi
theorem is1 {G : Gx} {fa pa wa : Nat → Addr} {fd : Nat → FuncData} (T : Txt G.X.K G.X.mg G.ca fa pa wa fd G.X.w) : ∀ t b, List.lookup t ([(.non, false), (.bl, false), (.int, false), (.str, true), (.lst, false), (.tup, false)] : TagB) = some b → PySem.W.kitOne G.X.K (tagV G.ca t) (.type "str") = some b ∧ ClsOf G.X.K G.ca t :=
  (al_cons ⟨T.kit_non_str, co_no⟩ (al_cons ⟨T.kit_bl_str, co_no⟩ (al_cons ⟨T.kit_int_str, co_no⟩ (al_cons ⟨T.kit_str_str, co_no⟩ (al_cons ⟨T.kit_lst_str, co_no⟩ (al_cons ⟨T.kit_tup_str, co_no⟩ al_nil))))))
theorem eqo2 {G : Gx} {fa pa wa : Nat → Addr} {fd : Nat → FuncData} (T : Txt G.X.K G.X.mg G.ca fa pa wa fd G.X.w) (tk : Takes G.X G.E) (hr : Room 0 G.X.A) : OpD G (compareOp .Eq) eq1 :=
  cd_eqL (k := 0) tk hr tb_nil al_nil
theorem in3 {G : Gx} {fa pa wa : Nat → Addr} {fd : Nat → FuncData} (T : Txt G.X.K G.X.mg G.ca fa pa wa fd G.X.w) (tk : Takes G.X G.E) (hr : Room 1 G.X.A) : OpD G (compareOp .In) isin2 :=
  cd_inX (k := 0) tk (hr.mono (by decide)) tb_nil (tr0 T tk (hr.mono (by decide)))
end W19
namespace W19
open PySem PySem.Spec PyProof.Rows L2 ClX ItX Mi
theorem ok_is_halt {P : Program} {w : World} {K : PySem.W.Frag} {mg : Str → Option Value} {base : Heap} {ca fa pa wa : Nat → Addr} {fd : Nat → FuncData} (T : Txt K mg ca fa pa wa fd w) : FnOk P w K mg base (L2.CX P w) 4 (fa 2) (fd 2) ["thing"] (spM K ca 1 m_is_halt) :=
  fn_okD (N := N_is_halt) (k := 3) (b := b_is_halt) T.F2 sc_is_halt fun cdv A outer s H E hr =>
  (rss_cons (rs_if (rt_not (rt_val (tr0 T gx_tk (hr.mono (by decide))) (re_isiL (v2 := V.ty "str") (l := [(.non, false), (.bl, false), (.int, false), (.str, true), (.lst, false), (.tup, false)]) (is1 T) rv_ty (re_var (pv 0)) (pe_bltn (u := .type "str") rfl T.z_str (by decide +kernel) rfl) rfl T.z_isinstance))) (rss_one (rs_ret re_bl)) rss_nil)
  (rss_one (rs_ret (re_cmp (eqo2 T gx_tk (hr.mono (by decide))) (re_var (pv 0)) (re_or (tr0 T gx_tk (hr.mono (by decide))) (re_bm PySem.F.plainAttrs_str PySem.F.slot_str_join PySem.F.type_str_join md_join re_str (ra_cons (re_l (rl_rd (pe_comp (own := [("mark", 1)]) rfl sc_is_halt.nd (blkOk_by (own := [("mark", 1)]) (N := N_is_halt) (sc := defScope s_is_halt) (by decide +kernel))) (rdl_comp (js := [1]) (vs := [1]) (ri_val (re_cconE rfl T.mgc43 T.cr43 T.cv43_ALL (fun _ => .str _))) (fun _ _ _ _ _ => (rg_name (i := 1) (js := [1]) sc_is_halt.nd rfl (by first | exact .inl rfl | exact .inr rfl) (by decide))) (fun _ _ _ _ _ => (rts_one (rt_cmp (tr0 T takes0 (hr.mono (by decide))) (in3 T takes0 (hr.mono (by decide))) (re_var (pv 1)) (re_var (pv 0))))) (fun _ _ _ _ _ => (re_var (pv 1))) (fun _ h => h)))) ra_nil)) (re_one re_str))))))
theorem is4 {G : Gx} {fa pa wa : Nat → Addr} {fd : Nat → FuncData} (T : Txt G.X.K G.X.mg G.ca fa pa wa fd G.X.w) : ∀ t b, List.lookup t ([(.non, false), (.bl, true), (.int, true), (.str, false), (.lst, false), (.tup, false)] : TagB) = some b → PySem.W.kitOne G.X.K (tagV G.ca t) (.type "int") = some b ∧ ClsOf G.X.K G.ca t :=
  (al_cons ⟨T.kit_non_int, co_no⟩ (al_cons ⟨T.kit_bl_int, co_no⟩ (al_cons ⟨T.kit_int_int, co_no⟩ (al_cons ⟨T.kit_str_int, co_no⟩ (al_cons ⟨T.kit_lst_int, co_no⟩ (al_cons ⟨T.kit_tup_int, co_no⟩ al_nil))))))
theorem is5 {G : Gx} {fa pa wa : Nat → Addr} {fd : Nat → FuncData} (T : Txt G.X.K G.X.mg G.ca fa pa wa fd G.X.w) : ∀ t b, List.lookup t ([(.non, false), (.bl, true), (.int, false), (.str, false), (.lst, false), (.tup, false)] : TagB) = some b → PySem.W.kitOne G.X.K (tagV G.ca t) (.type "bool") = some b ∧ ClsOf G.X.K G.ca t :=
  (al_cons ⟨T.kit_non_bool, co_no⟩ (al_cons ⟨T.kit_bl_bool, co_no⟩ (al_cons ⟨T.kit_int_bool, co_no⟩ (al_cons ⟨T.kit_str_bool, co_no⟩ (al_cons ⟨T.kit_lst_bool, co_no⟩ (al_cons ⟨T.kit_tup_bool, co_no⟩ al_nil))))))
end W19
namespace W19
open PySem PySem.Spec PyProof.Rows L2 ClX ItX Mi
theorem leo6 {G : Gx} {fa pa wa : Nat → Addr} {fd : Nat → FuncData} (T : Txt G.X.K G.X.mg G.ca fa pa wa fd G.X.w) (tk : Takes G.X G.E) (hr : Room 0 G.X.A) : OpD G (compareOp .LtE) le3 :=
  cd_leL (k := 0) tk hr tb_nil al_nil
theorem ok_is_limit {P : Program} {w : World} {K : PySem.W.Frag} {mg : Str → Option Value} {base : Heap} {ca fa pa wa : Nat → Addr} {fd : Nat → FuncData} (T : Txt K mg ca fa pa wa fd w) : FnOk P w K mg base (L2.CX P w) 4 (fa 3) (fd 3) ["thing"] (spM K ca 1 m_is_limit) :=
  fn_okD (N := N_is_limit) (k := 3) (b := b_is_limit) T.F3 sc_is_limit fun cdv A outer s H E hr =>
  (rss_cons (rs_if (rt_cmp (tr0 T gx_tk (hr.mono (by decide))) cd_is (re_var (pv 0)) re_non) (rss_one (rs_ret re_bl)) rss_nil)
  (rss_one (rs_ret (re_and (tr0 T gx_tk (hr.mono (by decide))) (re_isiL (v2 := V.ty "int") (l := [(.non, false), (.bl, true), (.int, true), (.str, false), (.lst, false), (.tup, false)]) (is4 T) rv_ty (re_var (pv 0)) (pe_bltn (u := .type "int") rfl T.z_int (by decide +kernel) rfl) rfl T.z_isinstance) (re_and (tr0 T gx_tk (hr.mono (by decide))) (re_not (tr0 T gx_tk (hr.mono (by decide))) (re_isiL (v2 := V.ty "bool") (l := [(.non, false), (.bl, true), (.int, false), (.str, false), (.lst, false), (.tup, false)]) (is5 T) rv_ty (re_var (pv 0)) (pe_bltn (u := .type "bool") rfl T.z_bool (by decide +kernel) rfl) rfl T.z_isinstance)) (re_one (re_chain (leo6 T gx_tk (hr.mono (by decide))) (leo6 T gx_tk (hr.mono (by decide))) re_int (re_var (pv 0)) (re_gcon (v := (V.int 6)) rfl T.gc_MOST_ROWS (fun _ => .int _)))))))))
theorem is7 {G : Gx} {fa pa wa : Nat → Addr} {fd : Nat → FuncData} (T : Txt G.X.K G.X.mg G.ca fa pa wa fd G.X.w) : ∀ t b, List.lookup t ([(.non, false), (.bl, false), (.int, false), (.str, false), (.lst, false), (.tup, true)] : TagB) = some b → PySem.W.kitOne G.X.K (tagV G.ca t) (.type "tuple") = some b ∧ ClsOf G.X.K G.ca t :=
  (al_cons ⟨T.kit_non_tuple, co_no⟩ (al_cons ⟨T.kit_bl_tuple, co_no⟩ (al_cons ⟨T.kit_int_tuple, co_no⟩ (al_cons ⟨T.kit_str_tuple, co_no⟩ (al_cons ⟨T.kit_lst_tuple, co_no⟩ (al_cons ⟨T.kit_tup_tuple, co_no⟩ al_nil))))))
end W19
namespace W19
open PySem PySem.Spec PyProof.Rows L2 ClX ItX Mi
theorem ln8 {G : Gx} {fa pa wa : Nat → Addr} {fd : Nat → FuncData} (T : Txt G.X.K G.X.mg G.ca fa pa wa fd G.X.w) (tk : Takes G.X G.E) (hr : Room 1 G.X.A) : CallD G (.builtin "len") (lenD []) :=
  kd_len (k := 0) tk hr tb_nil
theorem cd9 {G : Gx} {fa pa wa : Nat → Addr} {fd : Nat → FuncData} (T : Txt G.X.K G.X.mg G.ca fa pa wa fd G.X.w) (tk : Takes G.X G.E) (hr : Room 4 G.X.A) : CallD G (.ref (fa 3)) (mCall 1 [] m_is_limit) :=
  call_defE tk (ok_is_limit T) hr (bd_is_limit T) (fun _ => .nil)
theorem cd10 {G : Gx} {fa pa wa : Nat → Addr} {fd : Nat → FuncData} (T : Txt G.X.K G.X.mg G.ca fa pa wa fd G.X.w) (tk : Takes G.X G.E) (hr : Room 4 G.X.A) : CallD G (.ref (fa 2)) (mCall 1 [] m_is_halt) :=
  call_defE tk (ok_is_halt T) hr (bd_is_halt T) (fun _ => .nil)
end W19
namespace W19
open PySem PySem.Spec PyProof.Rows L2 ClX ItX Mi
theorem ok_is_fill_step {P : Program} {w : World} {K : PySem.W.Frag} {mg : Str → Option Value} {base : Heap} {ca fa pa wa : Nat → Addr} {fd : Nat → FuncData} (T : Txt K mg ca fa pa wa fd w) : FnOk P w K mg base (L2.CX P w) 7 (fa 4) (fd 4) ["thing"] (spM K ca 1 m_is_fill_step) :=
  fn_okD (N := N_is_fill_step) (k := 6) (b := b_is_fill_step) T.F4 sc_is_fill_step fun cdv A outer s H E hr =>
  (rss_cons (rs_if (rt_w (rw_or (rt_not (rt_val (tr0 T gx_tk (hr.mono (by decide))) (re_isiL (v2 := V.ty "tuple") (l := [(.non, false), (.bl, false), (.int, false), (.str, false), (.lst, false), (.tup, true)]) (is7 T) rv_ty (re_var (pv 0)) (pe_bltn (u := .type "tuple") rfl T.z_tuple (by decide +kernel) rfl) rfl T.z_isinstance))) (rw_or1 (rt_cmp (tr0 T gx_tk (hr.mono (by decide))) (cd_ne hr) (re_callB (ln8 T gx_tk (hr.mono (by decide))) rfl T.z_len (by decide +kernel) (ra_cons (re_var (pv 0)) ra_nil)) re_int)))) (rss_one (rs_ret re_bl)) rss_nil)
  (rss_cons (rs_if (rt_cmp (tr0 T gx_tk (hr.mono (by decide))) (eqo2 T gx_tk (hr.mono (by decide))) (re_var (pv 0)) (re_gcon (v := .ref (wa 0)) rfl ⟨_, T.gt_DROP_STEP, rfl⟩ (fun _ => .tupK T.wt0 (.cons (.str _) (.cons (.non) (.cons (.str _) .nil)))))) (rss_one (rs_ret re_bl)) rss_nil)
  (rss_cons (rs_unp (re_var (pv 0)) (rg_any rfl (rgs_cons (rg_name (i := 1) (js := [1, 2, 3]) sc_is_fill_step.nd rfl (by first | exact .inl rfl | exact .inr rfl) (by decide)) (rgs_cons (rg_name (i := 2) (js := [1, 2, 3]) sc_is_fill_step.nd rfl (by first | exact .inl rfl | exact .inr rfl) (by decide)) (rgs_cons (rg_name (i := 3) (js := [1, 2, 3]) sc_is_fill_step.nd rfl (by first | exact .inl rfl | exact .inr rfl) (by decide)) rgs_nil)))))
  (rss_one (rs_ret (re_and (tr0 T gx_tk (hr.mono (by decide))) (re_cmp (in3 T gx_tk (hr.mono (by decide))) (re_var (pv 1)) (re_gcon (v := .ref (wa 1)) rfl ⟨_, T.gt_FILL_WAYS, rfl⟩ (fun _ => .tupK T.wt1 (.cons (.str _) (.cons (.str _) (.cons (.str _) (.cons (.str _) .nil))))))) (re_and (tr0 T gx_tk (hr.mono (by decide))) (re_call (cd9 T gx_tk (hr.mono (by decide))) rfl T.g3 T.F3.kp (ra_cons (re_var (pv 2)) ra_nil)) (re_one (re_call (cd10 T gx_tk (hr.mono (by decide))) rfl T.g2 T.F2.kp (ra_cons (re_var (pv 3)) ra_nil))))))))))
theorem cd11 {G : Gx} {fa pa wa : Nat → Addr} {fd : Nat → FuncData} (T : Txt G.X.K G.X.mg G.ca fa pa wa fd G.X.w) (tk : Takes G.X G.E) (hr : Room 7 G.X.A) : CallD G (.ref (fa 4)) (mCall 1 [] m_is_fill_step) :=
  call_defE tk (ok_is_fill_step T) hr (bd_is_fill_step T) (fun _ => .nil)
theorem ok_fill_step {P : Program} {w : World} {K : PySem.W.Frag} {mg : Str → Option Value} {base : Heap} {ca fa pa wa : Nat → Addr} {fd : Nat → FuncData} (T : Txt K mg ca fa pa wa fd w) : FnOk P w K mg base (L2.CX P w) 10 (fa 5) (fd 5) ["way", "rows", "halt"] (spM K ca 3 m_fill_step) :=
  fn_okD (N := N_fill_step) (k := 9) (b := b_fill_step) T.F5 sc_fill_step fun cdv A outer s H E hr =>
  (rss_cons (rs_set (i := 3) sc_fill_step.nd rfl (by first | exact .inl rfl | exact .inr rfl) (re_tup (ra_cons (re_var (pv 0)) (ra_cons (re_var (pv 1)) (ra_cons (re_var (pv 2)) ra_nil)))))
  (rss_cons (rs_if (rt_not (rt_val (tr0 T gx_tk (hr.mono (by decide))) (re_call (cd11 T gx_tk (hr.mono (by decide))) rfl T.g4 T.F4.kp (ra_cons (re_var (pv 3)) ra_nil)))) (rss_one (rs_raiseE rfl gx_tk T.ox16 T.fi1 T.ti1 (ok_BadStep T) (hr.mono (by decide)) (bd_BadStep T) rfl T.mgc16 (ra_cons re_int ra_nil) (by decide))) rss_nil)
  (rss_one (rs_ret (re_var (pv 3))))))
end W19
namespace W19
open PySem PySem.Spec PyProof.Rows L2 ClX ItX Mi
theorem ok_fill_text {P : Program} {w : World} {K : PySem.W.Frag} {mg : Str → Option Value} {base : Heap} {ca fa pa wa : Nat → Addr} {fd : Nat → FuncData} (T : Txt K mg ca fa pa wa fd w) : FnOk P w K mg base (L2.CX P w) 4 (fa 6) (fd 6) ["step"] (spM K ca 1 m_fill_text) :=
  fn_okD (N := N_fill_text) (k := 3) (b := b_fill_text) T.F6 sc_fill_text fun cdv A outer s H E hr =>
  (rss_cons (rs_unp (re_var (pv 0)) (rg_any rfl (rgs_cons (rg_name (i := 1) (js := [1, 2, 3]) sc_fill_text.nd rfl (by first | exact .inl rfl | exact .inr rfl) (by decide)) (rgs_cons (rg_name (i := 2) (js := [1, 2, 3]) sc_fill_text.nd rfl (by first | exact .inl rfl | exact .inr rfl) (by decide)) (rgs_cons (rg_name (i := 3) (js := [1, 2, 3]) sc_fill_text.nd rfl (by first | exact .inl rfl | exact .inr rfl) (by decide)) rgs_nil)))))
  (rss_cons (rs_set (i := 4) sc_fill_text.nd rfl (by first | exact .inl rfl | exact .inr rfl) (re_ifExp (rt_cmp (tr0 T gx_tk (hr.mono (by decide))) cd_is (re_var (pv 2)) re_non) re_str (re_joined (.cons re_str (.cons (re_fmt (re_var (pv 2))) .nil)))))
  (rss_cons (rs_set (i := 5) sc_fill_text.nd rfl (by first | exact .inl rfl | exact .inr rfl) (re_ifExp (rt_cmp (tr0 T gx_tk (hr.mono (by decide))) (eqo2 T gx_tk (hr.mono (by decide))) (re_var (pv 3)) re_str) re_str (re_joined (.cons re_str (.cons (re_fmt (re_var (pv 3))) .nil)))))
  (rss_one (rs_ret (re_joined (.cons (re_fmt (re_var (pv 1))) (.cons (re_fmt (re_var (pv 4))) (.cons (re_fmt (re_var (pv 5))) .nil)))))))))
theorem cd12 {G : Gx} {fa pa wa : Nat → Addr} {fd : Nat → FuncData} (T : Txt G.X.K G.X.mg G.ca fa pa wa fd G.X.w) (tk : Takes G.X G.E) (hr : Room 4 G.X.A) : CallD G (.ref (fa 6)) (mCall 1 [] m_fill_text) :=
  call_defE tk (ok_fill_text T) hr (bd_fill_text T) (fun _ => .nil)
theorem ok_step_of {P : Program} {w : World} {K : PySem.W.Frag} {mg : Str → Option Value} {base : Heap} {ca fa pa wa : Nat → Addr} {fd : Nat → FuncData} (T : Txt K mg ca fa pa wa fd w) : FnOk P w K mg base (L2.CX P w) 10 (fa 7) (fd 7) ["text"] (spM K ca 1 m_step_of) :=
  fn_okD (N := N_step_of) (k := 9) (b := b_step_of) T.F7 sc_step_of fun cdv A outer s H E hr =>
  (rss_cons (rs_unpS rfl (re_bm PySem.F.plainAttrs_str PySem.F.slot_str_split PySem.F.type_str_split md_split (re_var (pv 0)) (ra_cons re_str ra_nil)) (rgs_cons (rg_name (i := 1) (js := [1, 2]) sc_step_of.nd rfl (by first | exact .inl rfl | exact .inr rfl) (by decide)) (rgs_cons (rg_name (i := 2) (js := [1, 2]) sc_step_of.nd rfl (by first | exact .inl rfl | exact .inr rfl) (by decide)) rgs_nil)))
  (rss_cons (rs_set (i := 3) sc_step_of.nd rfl (by first | exact .inl rfl | exact .inr rfl) re_non)
  (rss_cons (rs_set (i := 4) sc_step_of.nd rfl (by first | exact .inl rfl | exact .inr rfl) re_str)
  (rss_cons (rs_for gx_po rfl (ri_zipO (hr.mono (by decide)) (fun _ _ z => by cases z) rfl T.z_zip (ra_cons (re_step2 (lo := none) (re_var (pv 2)) po_none (fun _ _ _ q => q) pick_0) (ra_cons (re_step2 (lo := some 1) (re_var (pv 2)) (po_some pe_int) (fun _ _ _ q => ⟨1, rfl, q⟩) pick_1) ra_nil))) (rg_any rfl (rgs_cons (rg_name (i := 5) (js := [5, 6]) sc_step_of.nd rfl (by first | exact .inl rfl | exact .inr rfl) (by decide)) (rgs_cons (rg_name (i := 6) (js := [5, 6]) sc_step_of.nd rfl (by first | exact .inl rfl | exact .inr rfl) (by decide)) rgs_nil))) (rss_cons (rs_if (rt_cmp (tr0 T gx_tk (hr.mono (by decide))) (eqo2 T gx_tk (hr.mono (by decide))) (re_var (pv 5)) re_str) (rss_one (rs_set (i := 3) sc_step_of.nd rfl (by first | exact .inl rfl | exact .inr rfl) (Exists.elim T.kt_NUMBERS fun _ z => re_kget (tab := [("1", (D.int 1)), ("2", (D.int 2)), ("3", (D.int 3)), ("4", (D.int 4)), ("5", (D.int 5)), ("6", (D.int 6))]) z.2 rfl z.1 (tr_lookup (.cons (fun _ => .int _) (.cons (fun _ => .int _) (.cons (fun _ => .int _) (.cons (fun _ => .int _) (.cons (fun _ => .int _) (.cons (fun _ => .int _) .nil))))))) (re_var (pv 6)) re_int ⟨rfl, rfl, rfl, rfl⟩))) rss_nil)
  (rss_one (rs_if (rt_cmp (tr0 T gx_tk (hr.mono (by decide))) (eqo2 T gx_tk (hr.mono (by decide))) (re_var (pv 5)) re_str) (rss_one (rs_set (i := 4) sc_step_of.nd rfl (by first | exact .inl rfl | exact .inr rfl) (re_var (pv 6)))) rss_nil))))
  (rss_cons (rs_set (i := 7) sc_step_of.nd rfl (by first | exact .inl rfl | exact .inr rfl) (re_tup (ra_cons (re_var (pv 1)) (ra_cons (re_var (pv 3)) (ra_cons (re_var (pv 4)) ra_nil)))))
  (rss_one (rs_ret (re_ifExp (rt_w (rw_and (rt_val (tr0 T gx_tk (hr.mono (by decide))) (re_call (cd11 T gx_tk (hr.mono (by decide))) rfl T.g4 T.F4.kp (ra_cons (re_var (pv 7)) ra_nil))) (rw_and1 (rt_cmp (tr0 T gx_tk (hr.mono (by decide))) (eqo2 T gx_tk (hr.mono (by decide))) (re_call (cd12 T gx_tk (hr.mono (by decide))) rfl T.g6 T.F6.kp (ra_cons (re_var (pv 7)) ra_nil)) (re_var (pv 0)))))) (re_var (pv 7)) re_non))))))))
end W19
namespace W19
open PySem PySem.Spec PyProof.Rows L2 ClX ItX Mi
theorem cd13 {G : Gx} {fa pa wa : Nat → Addr} {fd : Nat → FuncData} (T : Txt G.X.K G.X.mg G.ca fa pa wa fd G.X.w) (tk : Takes G.X G.E) (hr : Room 10 G.X.A) : CallD G (.ref (fa 7)) (mCall 1 [] m_step_of) :=
  call_defE tk (ok_step_of T) hr (bd_step_of T) (fun _ => .nil)
theorem ok_read_fill {P : Program} {w : World} {K : PySem.W.Frag} {mg : Str → Option Value} {base : Heap} {ca fa pa wa : Nat → Addr} {fd : Nat → FuncData} (T : Txt K mg ca fa pa wa fd w) : FnOk P w K mg base (L2.CX P w) 13 (fa 8) (fd 8) ["text"] (spM K ca 1 m_read_fill) :=
  fn_okD (N := N_read_fill) (k := 12) (b := b_read_fill) T.F8 sc_read_fill fun cdv A outer s H E hr =>
  (rss_cons (rs_set (i := 1) sc_read_fill.nd rfl (by first | exact .inl rfl | exact .inr rfl) (re_call (cd13 T gx_tk (hr.mono (by decide))) rfl T.g7 T.F7.kp (ra_cons (re_var (pv 0)) ra_nil)))
  (rss_cons (rs_if (rt_cmp (tr0 T gx_tk (hr.mono (by decide))) cd_is (re_var (pv 1)) re_non) (rss_one (rs_raiseE rfl gx_tk T.ox4 T.fi0 T.ti0 (ok_BadText T) (hr.mono (by decide)) (bd_BadText T) rfl T.mgc4 (ra_cons re_int ra_nil) (by decide))) rss_nil)
  (rss_one (rs_ret (re_var (pv 1))))))
theorem op14 {G : Gx} {fa pa wa : Nat → Addr} {fd : Nat → FuncData} (T : Txt G.X.K G.X.mg G.ca fa pa wa fd G.X.w) (tk : Takes G.X G.E) (hr : Room 0 G.X.A) : OpD G (binaryOp .Mult) mulL :=
  (od_mulL (k := 0) tk (hr.mono (by decide)))
end W19
namespace W19
open PySem PySem.Spec PyProof.Rows L2 ClX ItX Mi
theorem ok_law_pool {P : Program} {w : World} {K : PySem.W.Frag} {mg : Str → Option Value} {base : Heap} {ca fa pa wa : Nat → Addr} {fd : Nat → FuncData} (T : Txt K mg ca fa pa wa fd w) : FnOk P w K mg base (L2.CX P w) 4 (fa 9) (fd 9) ["_law_script"] (spM K ca 1 m_law_pool) :=
  fn_okD (N := N_law_pool) (k := 3) (b := b_law_pool) T.F9 sc_law_pool fun cdv A outer s H E hr =>
  (rss_cons (rs_set (i := 1) sc_law_pool.nd rfl (by first | exact .inl rfl | exact .inr rfl) re_int)
  (rss_cons (rs_for gx_po rfl (ri_val (re_var (pv 0))) (rg_name (i := 2) (js := [2]) sc_law_pool.nd rfl (by first | exact .inl rfl | exact .inr rfl) (by decide)) (rss_one (rs_set (i := 1) sc_law_pool.nd rfl (by first | exact .inl rfl | exact .inr rfl) (re_bin od_mod (re_callTy kd_int rfl T.z_int (by decide +kernel) (ra_cons (re_bin od_addL (re_bin od_addL (re_bin (op14 T gx_tk (hr.mono (by decide))) (re_var (pv 1)) re_int) (re_var (pv 2))) re_int) ra_nil)) re_int))))
  (rss_one (rs_ret (re_cel (@rl_lst _ _ _ _ (@ra_cons _ _ _ _ _ (re_l (rl_rd (pe_comp (own := [("_law_cell", 2)]) rfl sc_law_pool.nd (blkOk_by (own := [("_law_cell", 2)]) (N := N_law_pool) (sc := defScope s_law_pool) (by decide +kernel))) (rdl_comp (js := [2]) (vs := [2]) (ri_val (re_var (pv 0))) (fun _ _ _ _ _ => (rg_name (i := 2) (js := [2]) sc_law_pool.nd rfl (by first | exact .inl rfl | exact .inr rfl) (by decide))) (fun _ _ _ _ _ => rts_nil) (fun _ _ _ _ _ => (re_callB kd_abs rfl T.z_abs (by decide +kernel) (ra_cons (re_var (pv 2)) ra_nil))) (fun _ h => h)))) (@ra_cons _ _ _ _ _ re_int (ra_cons re_int (ra_cons re_int (ra_cons (re_var (pv 1)) ra_nil))) (starEach_ns rfl)) (starEach_ns rfl))))))))
theorem op15 {G : Gx} {fa pa wa : Nat → Addr} {fd : Nat → FuncData} (T : Txt G.X.K G.X.mg G.ca fa pa wa fd G.X.w) (tk : Takes G.X G.E) (hr : Room 0 G.X.A) : OpD G (binaryOp .Sub) (opSub []) :=
  (od_sub (k := 0) tk (hr.mono (by decide)) tb_nil)
theorem ok_law_draw {P : Program} {w : World} {K : PySem.W.Frag} {mg : Str → Option Value} {base : Heap} {ca fa pa wa : Nat → Addr} {fd : Nat → FuncData} (T : Txt K mg ca fa pa wa fd w) : FnOk P w K mg base (L2.CX P w) 4 (fa 10) (fd 10) ["_law_pool_here", "_law_limit_here"] (spM K ca 2 m_law_draw) :=
  fn_okD (N := N_law_draw) (k := 3) (b := b_law_draw) T.F10 sc_law_draw fun cdv A outer s H E hr =>
  (rss_cons (rs_if (rt_w (rw_and (rt_cmp (tr0 T gx_tk (hr.mono (by decide))) (eqo2 T gx_tk (hr.mono (by decide))) (re_ix xd_ix (re_var (pv 0)) re_int) re_int) (rw_and1 (rt_cmp (tr0 T gx_tk (hr.mono (by decide))) cd_lt (re_ix xd_ix (re_var (pv 0)) re_int) (re_callB (ln8 T gx_tk (hr.mono (by decide))) rfl T.z_len (by decide +kernel) (ra_cons (re_ix xd_ix (re_var (pv 0)) re_int) ra_nil)))))) (rss_cons (rs_setC (re_var (pv 0)) re_int (re_bin od_addL (re_ix xd_ix (re_var (pv 0)) re_int) re_int))
  (rss_cons (rs_if (rt_cmp (tr0 T gx_tk (hr.mono (by decide))) cd_lt (re_ix xd_ix (re_ix xd_ix (re_var (pv 0)) re_int) (re_bin (op15 T gx_tk (hr.mono (by decide))) (re_ix xd_ix (re_var (pv 0)) re_int) re_int)) (re_bin od_pow re_int re_int)) (rss_one (rs_ret (re_bin od_mod (re_callTy kd_int rfl T.z_int (by decide +kernel) (ra_cons (re_ix xd_ix (re_ix xd_ix (re_var (pv 0)) re_int) (re_bin (op15 T gx_tk (hr.mono (by decide))) (re_ix xd_ix (re_var (pv 0)) re_int) re_int)) ra_nil)) (re_var (pv 1))))) rss_nil)
  (rss_one (rs_setC (re_var (pv 0)) re_int (re_ix xd_ix (re_ix xd_ix (re_var (pv 0)) re_int) (re_bin (op15 T gx_tk (hr.mono (by decide))) (re_ix xd_ix (re_var (pv 0)) re_int) re_int)))))) rss_nil)
  (rss_cons (rs_if (rt_cmp (tr0 T gx_tk (hr.mono (by decide))) cd_gt (re_ix xd_ix (re_var (pv 0)) re_int) re_int) (rss_cons (rs_set (i := 2) sc_law_draw.nd rfl (by first | exact .inl rfl | exact .inr rfl) (re_bin od_mod (re_callTy kd_int rfl T.z_int (by decide +kernel) (ra_cons (re_ix xd_ix (re_var (pv 0)) re_int) ra_nil)) (re_var (pv 1))))
  (rss_cons (rs_setC (re_var (pv 0)) re_int (re_bin od_fdvL (re_ix xd_ix (re_var (pv 0)) re_int) (re_var (pv 1))))
  (rss_one (rs_ret (re_var (pv 2)))))) rss_nil)
  (rss_cons (rs_setC (re_var (pv 0)) re_int (re_bin od_addL (re_ix xd_ix (re_var (pv 0)) re_int) re_int))
  (rss_cons (rs_set (i := 3) sc_law_draw.nd rfl (by first | exact .inl rfl | exact .inr rfl) (re_bin od_mod (re_callTy kd_int rfl T.z_int (by decide +kernel) (ra_cons (re_bin (op14 T gx_tk (hr.mono (by decide))) (re_ix xd_ix (re_var (pv 0)) re_int) (re_bin od_addL (re_ix xd_ix (re_var (pv 0)) re_int) re_int)) ra_nil)) re_int))
  (rss_one (rs_ret (re_bin od_mod (re_bin od_mod (re_callTy kd_int rfl T.z_int (by decide +kernel) (ra_cons (re_bin od_addL (re_bin (op14 T gx_tk (hr.mono (by decide))) (re_var (pv 3)) (re_var (pv 3))) (re_bin (op14 T gx_tk (hr.mono (by decide))) (re_ix xd_ix (re_var (pv 0)) re_int) (re_ix xd_ix (re_var (pv 0)) re_int))) ra_nil)) re_int) (re_var (pv 1)))))))))
end W19
namespace W19
open PySem PySem.Spec PyProof.Rows L2 ClX ItX Mi
theorem cd16 {G : Gx} {fa pa wa : Nat → Addr} {fd : Nat → FuncData} (T : Txt G.X.K G.X.mg G.ca fa pa wa fd G.X.w) (tk : Takes G.X G.E) (hr : Room 4 G.X.A) : CallD G (.ref (fa 10)) (mCall 2 [] m_law_draw) :=
  call_defE tk (ok_law_draw T) hr (bd_law_draw T) (fun _ => .nil)
theorem ok_law_pick {P : Program} {w : World} {K : PySem.W.Frag} {mg : Str → Option Value} {base : Heap} {ca fa pa wa : Nat → Addr} {fd : Nat → FuncData} (T : Txt K mg ca fa pa wa fd w) : FnOk P w K mg base (L2.CX P w) 7 (fa 11) (fd 11) ["_law_pool_here", "_law_things"] (spM K ca 2 m_law_pick) :=
  fn_okD (N := N_law_pick) (k := 6) (b := b_law_pick) T.F11 sc_law_pick fun cdv A outer s H E hr =>
  (rss_one (rs_ret (re_ix xd_ix (re_var (pv 1)) (re_call (cd16 T gx_tk (hr.mono (by decide))) rfl T.g10 T.F10.kp (ra_cons (re_var (pv 0)) (ra_cons (re_callB (ln8 T gx_tk (hr.mono (by decide))) rfl T.z_len (by decide +kernel) (ra_cons (re_var (pv 1)) ra_nil)) ra_nil))))))
theorem ok_law_letters {P : Program} {w : World} {K : PySem.W.Frag} {mg : Str → Option Value} {base : Heap} {ca fa pa wa : Nat → Addr} {fd : Nat → FuncData} (T : Txt K mg ca fa pa wa fd w) : FnOk P w K mg base (L2.CX P w) 4 (fa 12) (fd 12) ["_law_bits"] (spM K ca 1 m_law_letters) :=
  fn_okD (N := N_law_letters) (k := 3) (b := b_law_letters) T.F12 sc_law_letters fun cdv A outer s H E hr =>
  (rss_cons (rs_set (i := 1) sc_law_letters.nd rfl (by first | exact .inl rfl | exact .inr rfl) re_str)
  (rss_cons (rs_for gx_po rfl (ri_val re_str) (rg_name (i := 2) (js := [2]) sc_law_letters.nd rfl (by first | exact .inl rfl | exact .inr rfl) (by decide)) (rss_cons (rs_if (rt_cmp (tr0 T gx_tk (hr.mono (by decide))) (eqo2 T gx_tk (hr.mono (by decide))) (re_bin od_mod (re_callTy kd_int rfl T.z_int (by decide +kernel) (ra_cons (re_var (pv 0)) ra_nil)) re_int) re_int) (rss_one (rs_set (i := 1) sc_law_letters.nd rfl (by first | exact .inl rfl | exact .inr rfl) (re_bin od_addL (re_var (pv 1)) (re_var (pv 2))))) rss_nil)
  (rss_one (rs_set (i := 0) sc_law_letters.nd rfl (by first | exact .inl rfl | exact .inr rfl) (re_bin od_fdvL (re_var (pv 0)) re_int)))))
  (rss_cons (rs_if (rt_cmp (tr0 T gx_tk (hr.mono (by decide))) (eqo2 T gx_tk (hr.mono (by decide))) (re_var (pv 1)) re_str) (rss_one (rs_ret re_str)) rss_nil)
  (rss_one (rs_ret (re_var (pv 1)))))))
end W19
namespace W19
open PySem PySem.Spec PyProof.Rows L2 ClX ItX Mi
theorem okw_law_whole {P : Program} {w : World} {K : PySem.W.Frag} {mg : Str → Option Value} {base : Heap} {ca fa pa wa : Nat → Addr} {fd : Nat → FuncData} (T : Txt K mg ca fa pa wa fd w) : FnW P w K mg base 4 (fa 13) (fd 13) ["_law_actual"] (spM K ca 1 m_law_whole) :=
  fn_okW (N := N_law_whole) (k := 3) (b := b_law_whole) T.F13 sc_law_whole fun cdv A outer s H E hr =>
  (rss_one (rs_ret (re_and td_truS (re_isiL (v2 := V.ty "int") (l := [(.non, false), (.bl, true), (.int, true), (.str, false), (.lst, false), (.tup, false)]) (is4 T) rv_ty (re_var (pv 0)) (pe_bltn (u := .type "int") rfl T.z_int (by decide +kernel) rfl) rfl T.z_isinstance) (re_one (re_not td_truS (re_isiL (v2 := V.ty "bool") (l := [(.non, false), (.bl, true), (.int, false), (.str, false), (.lst, false), (.tup, false)]) (is5 T) rv_ty (re_var (pv 0)) (pe_bltn (u := .type "bool") rfl T.z_bool (by decide +kernel) rfl) rfl T.z_isinstance))))))
theorem ok_law_whole {P : Program} {w : World} {K : PySem.W.Frag} {mg : Str → Option Value} {base : Heap} {ca fa pa wa : Nat → Addr} {fd : Nat → FuncData} (T : Txt K mg ca fa pa wa fd w) : FnOk P w K mg base (L2.CX P w) 4 (fa 13) (fd 13) ["_law_actual"] (spM K ca 1 m_law_whole) := (okw_law_whole T).ok
theorem in17 {G : Gx} {fa pa wa : Nat → Addr} {fd : Nat → FuncData} (T : Txt G.X.K G.X.mg G.ca fa pa wa fd G.X.w) (tk : Takes G.X G.E) (hr : Room 1 G.X.A) : OpD G (compareOp .NotIn) nin4 :=
  cd_ninX (k := 0) tk (hr.mono (by decide)) tb_nil (tr0 T tk (hr.mono (by decide)))
end W19
namespace W19
open PySem PySem.Spec PyProof.Rows L2 ClX ItX Mi
theorem ok_law_set {P : Program} {w : World} {K : PySem.W.Frag} {mg : Str → Option Value} {base : Heap} {ca fa pa wa : Nat → Addr} {fd : Nat → FuncData} (T : Txt K mg ca fa pa wa fd w) : FnOk P w K mg base (L2.CX P w) 4 (fa 14) (fd 14) ["_law_letters_here"] (spM K ca 1 m_law_set) :=
  fn_okD (N := N_law_set) (k := 3) (b := b_law_set) T.F14 sc_law_set fun cdv A outer s H E hr =>
  (rss_cons (rs_set (i := 1) sc_law_set.nd rfl (by first | exact .inl rfl | exact .inr rfl) re_str)
  (rss_cons (rs_for gx_po rfl (ri_val (re_var (pv 0))) (rg_name (i := 2) (js := [2]) sc_law_set.nd rfl (by first | exact .inl rfl | exact .inr rfl) (by decide)) (rss_cons (rs_if (rt_w (rw_or (rt_cmp (tr0 T gx_tk (hr.mono (by decide))) (in17 T gx_tk (hr.mono (by decide))) (re_var (pv 2)) re_str) (rw_or1 (rt_cmp (tr0 T gx_tk (hr.mono (by decide))) cd_leSt (re_var (pv 2)) (re_var (pv 1)))))) (rss_one (rs_ret (re_cmp (eqo2 T gx_tk (hr.mono (by decide))) (re_var (pv 0)) re_str))) rss_nil)
  (rss_one (rs_set (i := 1) sc_law_set.nd rfl (by first | exact .inl rfl | exact .inr rfl) (re_var (pv 2))))))
  (rss_one (rs_ret (re_cmp (cd_ne hr) (re_var (pv 0)) re_str)))))
theorem cd18 {G : Gx} {fa pa wa : Nat → Addr} {fd : Nat → FuncData} (T : Txt G.X.K G.X.mg G.ca fa pa wa fd G.X.w) (tk : Takes G.X G.E) (hr : Room 4 G.X.A) : CallD G (.ref (fa 13)) (mCall 1 [] m_law_whole) :=
  call_defE tk (ok_law_whole T) hr (bd_law_whole T) (fun _ => .nil)
theorem cd19 {G : Gx} {fa pa wa : Nat → Addr} {fd : Nat → FuncData} (T : Txt G.X.K G.X.mg G.ca fa pa wa fd G.X.w) (tk : Takes G.X G.E) (hr : Room 4 G.X.A) : CallD G (.ref (fa 14)) (mCall 1 [] m_law_set) :=
  call_defE tk (ok_law_set T) hr (bd_law_set T) (fun _ => .nil)
end W19
namespace W19
open PySem PySem.Spec PyProof.Rows L2 ClX ItX Mi
theorem ok_law_valid {P : Program} {w : World} {K : PySem.W.Frag} {mg : Str → Option Value} {base : Heap} {ca fa pa wa : Nat → Addr} {fd : Nat → FuncData} (T : Txt K mg ca fa pa wa fd w) : FnOk P w K mg base (L2.CX P w) 7 (fa 15) (fd 15) ["_law_way", "_law_limit_here", "_law_stop_here"] (spM K ca 3 m_law_valid) :=
  fn_okD (N := N_law_valid) (k := 6) (b := b_law_valid) T.F15 sc_law_valid fun cdv A outer s H E hr =>
  (rss_cons (rs_if (rt_cmp (tr0 T gx_tk (hr.mono (by decide))) (eqo2 T gx_tk (hr.mono (by decide))) (re_var (pv 0)) re_str) (rss_one (rs_ret (re_and (tr0 T gx_tk (hr.mono (by decide))) (re_cmp cd_is (re_var (pv 1)) re_non) (re_one (re_cmp (eqo2 T gx_tk (hr.mono (by decide))) (re_var (pv 2)) re_str))))) rss_nil)
  (rss_cons (rs_if (rt_cmp (tr0 T gx_tk (hr.mono (by decide))) (in17 T gx_tk (hr.mono (by decide))) (re_var (pv 0)) (@re_l _ _ _ (@rl_lst _ _ _ _ (@ra_cons _ _ _ _ _ re_str (ra_cons re_str (ra_cons re_str (ra_cons re_str ra_nil))) (starEach_ns rfl))))) (rss_one (rs_ret re_bl)) rss_nil)
  (rss_cons (rs_if (rt_w (rw_and (rt_cmp (tr0 T gx_tk (hr.mono (by decide))) cd_isnot (re_var (pv 1)) re_non) (rw_and1 (rt_not (rt_w (rw_and (rt_val (tr0 T gx_tk (hr.mono (by decide))) (re_call (cd18 T gx_tk (hr.mono (by decide))) rfl T.g13 T.F13.kp (ra_cons (re_var (pv 1)) ra_nil))) (rw_and1 (rt_chain (tr0 T gx_tk (hr.mono (by decide))) (leo6 T gx_tk (hr.mono (by decide))) (leo6 T gx_tk (hr.mono (by decide))) re_int (re_var (pv 1)) re_int)))))))) (rss_one (rs_ret re_bl)) rss_nil)
  (rss_one (rs_ret (re_call (cd19 T gx_tk (hr.mono (by decide))) rfl T.g14 T.F14.kp (ra_cons (re_var (pv 2)) ra_nil)))))))
theorem ok_law_is_step {P : Program} {w : World} {K : PySem.W.Frag} {mg : Str → Option Value} {base : Heap} {ca fa pa wa : Nat → Addr} {fd : Nat → FuncData} (T : Txt K mg ca fa pa wa fd w) : FnOk P w K mg base (L2.CX P w) 7 (fa 16) (fd 16) ["_law_actual", "_law_due"] (spM K ca 2 m_law_is_step) :=
  fn_okD (N := N_law_is_step) (k := 6) (b := b_law_is_step) T.F16 sc_law_is_step fun cdv A outer s H E hr =>
  (rss_cons (rs_if (rt_w (rw_or (rt_not (rt_val (tr0 T gx_tk (hr.mono (by decide))) (re_isiL (v2 := V.ty "tuple") (l := [(.non, false), (.bl, false), (.int, false), (.str, false), (.lst, false), (.tup, true)]) (is7 T) rv_ty (re_var (pv 0)) (pe_bltn (u := .type "tuple") rfl T.z_tuple (by decide +kernel) rfl) rfl T.z_isinstance))) (rw_or1 (rt_cmp (tr0 T gx_tk (hr.mono (by decide))) (cd_ne hr) (re_callB (ln8 T gx_tk (hr.mono (by decide))) rfl T.z_len (by decide +kernel) (ra_cons (re_var (pv 0)) ra_nil)) re_int)))) (rss_one (rs_ret re_bl)) rss_nil)
  (rss_cons (rs_if (rt_w (rw_or (rt_not (rt_val (tr0 T gx_tk (hr.mono (by decide))) (re_isiL (v2 := V.ty "str") (l := [(.non, false), (.bl, false), (.int, false), (.str, true), (.lst, false), (.tup, false)]) (is1 T) rv_ty (re_ix xd_ix (re_var (pv 0)) re_int) (pe_bltn (u := .type "str") rfl T.z_str (by decide +kernel) rfl) rfl T.z_isinstance))) (rw_or1 (rt_not (rt_val (tr0 T gx_tk (hr.mono (by decide))) (re_isiL (v2 := V.ty "str") (l := [(.non, false), (.bl, false), (.int, false), (.str, true), (.lst, false), (.tup, false)]) (is1 T) rv_ty (re_ix xd_ix (re_var (pv 0)) re_int) (pe_bltn (u := .type "str") rfl T.z_str (by decide +kernel) rfl) rfl T.z_isinstance)))))) (rss_one (rs_ret re_bl)) rss_nil)
  (rss_cons (rs_if (rt_w (rw_and (rt_cmp (tr0 T gx_tk (hr.mono (by decide))) cd_isnot (re_ix xd_ix (re_var (pv 0)) re_int) re_non) (rw_and1 (rt_not (rt_val (tr0 T gx_tk (hr.mono (by decide))) (re_call (cd18 T gx_tk (hr.mono (by decide))) rfl T.g13 T.F13.kp (ra_cons (re_ix xd_ix (re_var (pv 0)) re_int) ra_nil))))))) (rss_one (rs_ret re_bl)) rss_nil)
  (rss_one (rs_ret (re_cmp (eqo2 T gx_tk (hr.mono (by decide))) (re_var (pv 0)) (re_var (pv 1))))))))
theorem cd20 {G : Gx} {fa pa wa : Nat → Addr} {fd : Nat → FuncData} (T : Txt G.X.K G.X.mg G.ca fa pa wa fd G.X.w) (tk : Takes G.X G.E) (hr : Room 7 G.X.A) : CallD G (.ref (fa 15)) (mCall 3 [] m_law_valid) :=
  call_defE tk (ok_law_valid T) hr (bd_law_valid T) (fun _ => .nil)
end W19
namespace W19
open PySem PySem.Spec PyProof.Rows L2 ClX ItX Mi
theorem ck21 {G : Gx} {fa pa wa : Nat → Addr} {fd : Nat → FuncData} (T : Txt G.X.K G.X.mg G.ca fa pa wa fd G.X.w) (tk : Takes G.X G.E) (hr : Room 10 G.X.A) : CallDK G (.ref (fa 5)) ["rows", "halt"] (mCallKs 1 2 3 [(true, 0), (true, 1)] [] m_fill_step) :=
  call_defKs (ks := ["rows", "halt"]) tk (ok_fill_step T) hr (bks_fill_step_0 T) (fun _ => .nil)
theorem sbx22 {G : Gx} {fa pa wa : Nat → Addr} {fd : Nat → FuncData} (T : Txt G.X.K G.X.mg G.ca fa pa wa fd G.X.w) : ∀ c b, sub5 c = some b → PySem.W.exmOne G.X.K (.ref (G.ca c)) (.ref (G.ca 16)) = some b :=
  (al_cons T.exm4_c16 (al_cons T.exm16_c16 al_nil))
theorem ix23 {G : Gx} {fa pa wa : Nat → Addr} {fd : Nat → FuncData} (T : Txt G.X.K G.X.mg G.ca fa pa wa fd G.X.w) : ∀ c b, List.lookup c ([(4, true), (16, true)] : ClB) = some b → PySem.W.kitOne G.X.K (.ref (G.ca c)) (.ref (G.ca 0)) = some b ∧ ExcC G.X.K (G.ca c) ∧ (PySem.W.clsIn G.X.K (G.ca c)).isSome = true :=
  (al_cons ⟨T.kitx4_c0, T.xc4, T.xi4⟩ (al_cons ⟨T.kitx16_c0, T.xc16, T.xi16⟩ al_nil))
end W19
namespace W19
open PySem PySem.Spec PyProof.Rows L2 ClX ItX Mi
theorem ix24 {G : Gx} {fa pa wa : Nat → Addr} {fd : Nat → FuncData} (T : Txt G.X.K G.X.mg G.ca fa pa wa fd G.X.w) : ∀ c b, List.lookup c ([(4, true), (16, true)] : ClB) = some b → PySem.W.kitOne G.X.K (.ref (G.ca c)) (.type "ValueError") = some b ∧ ExcC G.X.K (G.ca c) ∧ (PySem.W.clsIn G.X.K (G.ca c)).isSome = true :=
  (al_cons ⟨T.kitx4_ValueError, T.xc4, T.xi4⟩ (al_cons ⟨T.kitx16_ValueError, T.xc16, T.xi16⟩ al_nil))
theorem ix25 {G : Gx} {fa pa wa : Nat → Addr} {fd : Nat → FuncData} (T : Txt G.X.K G.X.mg G.ca fa pa wa fd G.X.w) : ∀ c b, List.lookup c ([(4, true), (16, false)] : ClB) = some b → PySem.W.kitOne G.X.K (.ref (G.ca c)) (.ref (G.ca 4)) = some b ∧ ExcC G.X.K (G.ca c) ∧ (PySem.W.clsIn G.X.K (G.ca c)).isSome = true :=
  (al_cons ⟨T.kitx4_c4, T.xc4, T.xi4⟩ (al_cons ⟨T.kitx16_c4, T.xc16, T.xi16⟩ al_nil))
theorem cd26 {G : Gx} {fa pa wa : Nat → Addr} {fd : Nat → FuncData} (T : Txt G.X.K G.X.mg G.ca fa pa wa fd G.X.w) (tk : Takes G.X G.E) (hr : Room 7 G.X.A) : CallD G (.ref (fa 16)) (mCall 2 [] m_law_is_step) :=
  call_defE tk (ok_law_is_step T) hr (bd_law_is_step T) (fun _ => .nil)
end W19
namespace W19
open PySem PySem.Spec PyProof.Rows L2 ClX ItX Mi
theorem ok_law_made {P : Program} {w : World} {K : PySem.W.Frag} {mg : Str → Option Value} {base : Heap} {ca fa pa wa : Nat → Addr} {fd : Nat → FuncData} (T : Txt K mg ca fa pa wa fd w) : FnOk P w K mg base (L2.CX P w) 13 (fa 17) (fd 17) ["_law_way", "_law_limit_here", "_law_stop_here"] (spM K ca 3 m_law_made) :=
  fn_okD (N := N_law_made) (k := 12) (b := b_law_made) T.F17 sc_law_made fun cdv A outer s H E hr =>
  (rss_cons (rs_set (i := 3) sc_law_made.nd rfl (by first | exact .inl rfl | exact .inr rfl) (re_call (cd20 T gx_tk (hr.mono (by decide))) rfl T.g15 T.F15.kp (ra_cons (re_var (pv 0)) (ra_cons (re_var (pv 1)) (ra_cons (re_var (pv 2)) ra_nil)))))
  (rss_cons (rs_tryG rfl rfl gx_tk (.as (i := 5) sc_law_made.nd rfl rfl ⟨rfl, by decide, .inl T.mgc16⟩ (sbx22 T) (fun a oe cls d pn hz hd => (rss_cons (rs_set (i := 6) sc_law_made.nd rfl (by first | exact .inl rfl | exact .inr rfl) (re_and td_truS (re_isXL (v2 := V.ref (ca 0)) (ix23 T) rv_ref hz hd (pv 5) (pe_glob rfl T.mgc0 rfl) rfl T.z_isinstance) (re_one (re_isXL (v2 := V.ty "ValueError") (ix24 T) rv_ty hz hd (pv 5) (pe_bltn (u := .type "ValueError") rfl T.z_ValueError (by decide +kernel) rfl) rfl T.z_isinstance))))
  (rss_cons (rs_set (i := 6) sc_law_made.nd rfl (by first | exact .inl rfl | exact .inr rfl) (re_and td_truS (re_var (pv 6)) (re_one (re_not td_truS (re_isXL (v2 := V.ref (ca 4)) (ix25 T) rv_ref hz hd (pv 5) (pe_glob rfl T.mgc4 rfl) rfl T.z_isinstance)))))
  (rss_one (rs_ret (re_and td_truS (re_not td_truS (re_var (pv 3))) (re_and td_truS (re_var (pv 6)) (re_and td_truS (re_call (call_defW takes0 (okw_law_whole T) (roomH_mk (hr.mono (by decide))) (bd_law_whole T) (fun _ => .nil)) rfl T.g13 T.F13.kp (ra_cons (re_xf (mb_cons ⟨T.xf4, T.na4_at⟩ (mb_cons ⟨T.xf16, T.na16_at⟩ mb_nil)) hz hd (pv 5)) ra_nil)) (re_one (re_cmp cd_eqS (re_xf (mb_cons ⟨T.xf4, T.na4_at⟩ (mb_cons ⟨T.xf16, T.na16_at⟩ mb_nil)) hz hd (pv 5)) re_int)))))))))) .nil) (fun W pn xe tk po => (rss_one (rs_set (i := 4) sc_law_made.nd rfl (by first | exact .inl rfl | exact .inr rfl) (re_callK (ck21 T tk (hr.mono (by decide))) rfl T.g5 T.F5.kp (ra_cons (re_var (pv 0)) ra_nil) (.cons (re_var (pv 1)) (.cons (re_var (pv 2)) .nil)))))) rss_nil rfl)
  (rss_one (rs_ret (re_and (tr0 T gx_tk (hr.mono (by decide))) (re_var (pv 3)) (re_one (re_call (cd26 T gx_tk (hr.mono (by decide))) rfl T.g16 T.F16.kp (ra_cons (re_var (pv 4)) (ra_cons (re_tup (ra_cons (re_var (pv 0)) (ra_cons (re_var (pv 1)) (ra_cons (re_var (pv 2)) ra_nil)))) ra_nil)))))))))
theorem cd27 {G : Gx} {fa pa wa : Nat → Addr} {fd : Nat → FuncData} (T : Txt G.X.K G.X.mg G.ca fa pa wa fd G.X.w) (tk : Takes G.X G.E) (hr : Room 10 G.X.A) : CallD G (.ref (fa 5)) (mCall 3 [D.non, (D.str "-")] m_fill_step) :=
  call_defE tk (ok_fill_step T) hr (bd_fill_step_k T) (fun _ => (.cons (.non) (.cons (.str _) .nil)))
theorem ck28 {G : Gx} {fa pa wa : Nat → Addr} {fd : Nat → FuncData} (T : Txt G.X.K G.X.mg G.ca fa pa wa fd G.X.w) (tk : Takes G.X G.E) (hr : Room 10 G.X.A) : CallDK G (.ref (fa 5)) ["rows"] (mCallKs 1 1 3 [(true, 0), (false, 0)] [(D.str "-")] m_fill_step) :=
  call_defKs (ks := ["rows"]) tk (ok_fill_step T) hr (bks_fill_step_1 T) (fun _ => (.cons (.str _) .nil))
end W19
namespace W19
open PySem PySem.Spec PyProof.Rows L2 ClX ItX Mi
theorem ck29 {G : Gx} {fa pa wa : Nat → Addr} {fd : Nat → FuncData} (T : Txt G.X.K G.X.mg G.ca fa pa wa fd G.X.w) (tk : Takes G.X G.E) (hr : Room 10 G.X.A) : CallDK G (.ref (fa 5)) ["halt"] (mCallKs 1 1 3 [(false, 0), (true, 0)] [D.non] m_fill_step) :=
  call_defKs (ks := ["halt"]) tk (ok_fill_step T) hr (bks_fill_step_2 T) (fun _ => (.cons (.non) .nil))
theorem ck30 {G : Gx} {fa pa wa : Nat → Addr} {fd : Nat → FuncData} (T : Txt G.X.K G.X.mg G.ca fa pa wa fd G.X.w) (tk : Takes G.X G.E) (hr : Room 10 G.X.A) : CallDK G (.ref (fa 5)) ["halt", "rows"] (mCallKs 1 2 3 [(true, 1), (true, 0)] [] m_fill_step) :=
  call_defKs (ks := ["halt", "rows"]) tk (ok_fill_step T) hr (bks_fill_step_3 T) (fun _ => .nil)
theorem ok_law_short {P : Program} {w : World} {K : PySem.W.Frag} {mg : Str → Option Value} {base : Heap} {ca fa pa wa : Nat → Addr} {fd : Nat → FuncData} (T : Txt K mg ca fa pa wa fd w) : FnOk P w K mg base (L2.CX P w) 13 (fa 18) (fd 18) ["_law_way", "_law_limit_here", "_law_stop_here"] (spM K ca 3 m_law_short) :=
  fn_okD (N := N_law_short) (k := 12) (b := b_law_short) T.F18 sc_law_short fun cdv A outer s H E hr =>
  (rss_cons (rs_if (rt_not (rt_val (tr0 T gx_tk (hr.mono (by decide))) (re_call (cd20 T gx_tk (hr.mono (by decide))) rfl T.g15 T.F15.kp (ra_cons (re_var (pv 0)) (ra_cons (re_var (pv 1)) (ra_cons (re_var (pv 2)) ra_nil)))))) (rss_one (rs_ret re_bl)) rss_nil)
  (rss_cons (rs_own (ps_set (i := 3) sc_law_short.nd rfl (by first | exact .inl rfl | exact .inr rfl) pe_q (by first | exact swaps_ns rfl | rfl)) (rl_lst (ra_cons (re_call (cd27 T gx_tk (hr.mono (by decide))) rfl T.g5 T.F5.kp (ra_cons (re_var (pv 0)) ra_nil)) (ra_cons (re_callK (ck28 T gx_tk (hr.mono (by decide))) rfl T.g5 T.F5.kp (ra_cons (re_var (pv 0)) ra_nil) (.cons (re_var (pv 1)) .nil)) (ra_cons (re_callK (ck29 T gx_tk (hr.mono (by decide))) rfl T.g5 T.F5.kp (ra_cons (re_var (pv 0)) ra_nil) (.cons (re_var (pv 2)) .nil)) ra_nil)))))
  (rss_cons (rs_appO (pv 3) (re_callK (ck30 T gx_tk (hr.mono (by decide))) rfl T.g5 T.F5.kp (ra_cons (re_var (pv 0)) ra_nil) (.cons (re_var (pv 2)) (.cons (re_var (pv 1)) .nil))))
  (rss_frz 3 (rss_cons (rs_if (rt_not (rt_val (tr0 T gx_tk (hr.mono (by decide))) (re_call (cd26 T gx_tk (hr.mono (by decide))) rfl T.g16 T.F16.kp (ra_cons (re_ix xd_ix (re_var (pv 3)) re_int) (ra_cons (re_tup (ra_cons (re_var (pv 0)) (ra_cons re_non (ra_cons re_str ra_nil)))) ra_nil))))) (rss_one (rs_ret re_bl)) rss_nil)
  (rss_cons (rs_if (rt_not (rt_val (tr0 T gx_tk (hr.mono (by decide))) (re_call (cd26 T gx_tk (hr.mono (by decide))) rfl T.g16 T.F16.kp (ra_cons (re_ix xd_ix (re_var (pv 3)) re_int) (ra_cons (re_tup (ra_cons (re_var (pv 0)) (ra_cons (re_var (pv 1)) (ra_cons re_str ra_nil)))) ra_nil))))) (rss_one (rs_ret re_bl)) rss_nil)
  (rss_cons (rs_if (rt_not (rt_val (tr0 T gx_tk (hr.mono (by decide))) (re_call (cd26 T gx_tk (hr.mono (by decide))) rfl T.g16 T.F16.kp (ra_cons (re_ix xd_ix (re_var (pv 3)) re_int) (ra_cons (re_tup (ra_cons (re_var (pv 0)) (ra_cons re_non (ra_cons (re_var (pv 2)) ra_nil)))) ra_nil))))) (rss_one (rs_ret re_bl)) rss_nil)
  (rss_one (rs_ret (re_call (cd26 T gx_tk (hr.mono (by decide))) rfl T.g16 T.F16.kp (ra_cons (re_ix xd_ix (re_var (pv 3)) re_int) (ra_cons (re_tup (ra_cons (re_var (pv 0)) (ra_cons (re_var (pv 1)) (ra_cons (re_var (pv 2)) ra_nil)))) ra_nil))))))))))))
end W19
namespace W19
open PySem PySem.Spec PyProof.Rows L2 ClX ItX Mi
theorem ok_law_text {P : Program} {w : World} {K : PySem.W.Frag} {mg : Str → Option Value} {base : Heap} {ca fa pa wa : Nat → Addr} {fd : Nat → FuncData} (T : Txt K mg ca fa pa wa fd w) : FnOk P w K mg base (L2.CX P w) 4 (fa 19) (fd 19) ["_law_step"] (spM K ca 1 m_law_text) :=
  fn_okD (N := N_law_text) (k := 3) (b := b_law_text) T.F19 sc_law_text fun cdv A outer s H E hr =>
  (rss_cons (rs_set (i := 1) sc_law_text.nd rfl (by first | exact .inl rfl | exact .inr rfl) (re_ix xd_ix (re_var (pv 0)) re_int))
  (rss_cons (rs_if (rt_cmp (tr0 T gx_tk (hr.mono (by decide))) cd_isnot (re_ix xd_ix (re_var (pv 0)) re_int) re_non) (rss_one (rs_set (i := 1) sc_law_text.nd rfl (by first | exact .inl rfl | exact .inr rfl) (re_bin od_addL (re_bin od_addL (re_var (pv 1)) re_str) (re_callTy kd_str rfl T.z_str (by decide +kernel) (ra_cons (re_ix xd_ix (re_var (pv 0)) re_int) ra_nil))))) rss_nil)
  (rss_cons (rs_if (rt_cmp (tr0 T gx_tk (hr.mono (by decide))) (cd_ne hr) (re_ix xd_ix (re_var (pv 0)) re_int) re_str) (rss_one (rs_set (i := 1) sc_law_text.nd rfl (by first | exact .inl rfl | exact .inr rfl) (re_bin od_addL (re_bin od_addL (re_var (pv 1)) re_str) (re_ix xd_ix (re_var (pv 0)) re_int)))) rss_nil)
  (rss_one (rs_ret (re_var (pv 1)))))))
theorem ok_law_reading {P : Program} {w : World} {K : PySem.W.Frag} {mg : Str → Option Value} {base : Heap} {ca fa pa wa : Nat → Addr} {fd : Nat → FuncData} (T : Txt K mg ca fa pa wa fd w) : FnOk P w K mg base (L2.CX P w) 7 (fa 20) (fd 20) ["_law_text_here"] (spM K ca 1 m_law_reading) :=
  fn_okD (N := N_law_reading) (k := 6) (b := b_law_reading) T.F20 sc_law_reading fun cdv A outer s H E hr =>
  (rss_cons (rs_set (i := 1) sc_law_reading.nd rfl (by first | exact .inl rfl | exact .inr rfl) (re_bm PySem.F.plainAttrs_str PySem.F.slot_str_split PySem.F.type_str_split md_split (re_var (pv 0)) (ra_cons re_str ra_nil)))
  (rss_cons (rs_if (rt_cmp (tr0 T gx_tk (hr.mono (by decide))) (eqo2 T gx_tk (hr.mono (by decide))) (re_var (pv 1)) (re_l (rl_lst (ra_cons re_str ra_nil)))) (rss_one (rs_ret (re_tup (ra_cons re_str (ra_cons re_non (ra_cons re_str ra_nil)))))) rss_nil)
  (rss_cons (rs_set (i := 2) sc_law_reading.nd rfl (by first | exact .inl rfl | exact .inr rfl) re_non)
  (rss_cons (rs_set (i := 3) sc_law_reading.nd rfl (by first | exact .inl rfl | exact .inr rfl) re_str)
  (rss_cons (rs_set (i := 4) sc_law_reading.nd rfl (by first | exact .inl rfl | exact .inr rfl) (re_slice sd_sl (re_var (pv 1)) (rp_some re_int) rp_none))
  (rss_cons (rs_if (rt_w (rw_and (rt_cmp (tr0 T gx_tk (hr.mono (by decide))) (eqo2 T gx_tk (hr.mono (by decide))) (re_slice sd_sl (re_var (pv 4)) rp_none (rp_some re_int)) (re_l (rl_lst (ra_cons re_str ra_nil)))) (rw_and (rt_cmp (tr0 T gx_tk (hr.mono (by decide))) cd_gt (re_callB (ln8 T gx_tk (hr.mono (by decide))) rfl T.z_len (by decide +kernel) (ra_cons (re_var (pv 4)) ra_nil)) re_int) (rw_and1 (rt_cmp (tr0 T gx_tk (hr.mono (by decide))) (in3 T gx_tk (hr.mono (by decide))) (re_ix xd_ix (re_var (pv 4)) re_int) (@re_l _ _ _ (@rl_lst _ _ _ _ (@ra_cons _ _ _ _ _ re_str (@ra_cons _ _ _ _ _ re_str (@ra_cons _ _ _ _ _ re_str (ra_cons re_str (ra_cons re_str (ra_cons re_str ra_nil))) (starEach_ns rfl)) (starEach_ns rfl)) (starEach_ns rfl))))))))) (rss_cons (rs_set (i := 2) sc_law_reading.nd rfl (by first | exact .inl rfl | exact .inr rfl) (re_callTy kd_int rfl T.z_int (by decide +kernel) (ra_cons (re_ix xd_ix (re_var (pv 4)) re_int) ra_nil)))
  (rss_one (rs_set (i := 4) sc_law_reading.nd rfl (by first | exact .inl rfl | exact .inr rfl) (re_slice sd_sl (re_var (pv 4)) (rp_some re_int) rp_none)))) rss_nil)
  (rss_cons (rs_if (rt_w (rw_and (rt_cmp (tr0 T gx_tk (hr.mono (by decide))) (eqo2 T gx_tk (hr.mono (by decide))) (re_slice sd_sl (re_var (pv 4)) rp_none (rp_some re_int)) (re_l (rl_lst (ra_cons re_str ra_nil)))) (rw_and (rt_cmp (tr0 T gx_tk (hr.mono (by decide))) cd_gt (re_callB (ln8 T gx_tk (hr.mono (by decide))) rfl T.z_len (by decide +kernel) (ra_cons (re_var (pv 4)) ra_nil)) re_int) (rw_and (rt_cmp (tr0 T gx_tk (hr.mono (by decide))) (cd_ne hr) (re_ix xd_ix (re_var (pv 4)) re_int) re_str) (rw_and1 (rt_val (tr0 T gx_tk (hr.mono (by decide))) (re_call (cd19 T gx_tk (hr.mono (by decide))) rfl T.g14 T.F14.kp (ra_cons (re_ix xd_ix (re_var (pv 4)) re_int) ra_nil)))))))) (rss_cons (rs_set (i := 3) sc_law_reading.nd rfl (by first | exact .inl rfl | exact .inr rfl) (re_ix xd_ix (re_var (pv 4)) re_int))
  (rss_one (rs_set (i := 4) sc_law_reading.nd rfl (by first | exact .inl rfl | exact .inr rfl) (re_slice sd_sl (re_var (pv 4)) (rp_some re_int) rp_none)))) rss_nil)
  (rss_cons (rs_if (rt_w (rw_or (rt_cmp (tr0 T gx_tk (hr.mono (by decide))) (cd_ne hr) (re_var (pv 4)) (re_l (rl_lst ra_nil))) (rw_or1 (rt_cmp (tr0 T gx_tk (hr.mono (by decide))) (in17 T gx_tk (hr.mono (by decide))) (re_ix xd_ix (re_var (pv 1)) re_int) (@re_l _ _ _ (@rl_lst _ _ _ _ (@ra_cons _ _ _ _ _ re_str (ra_cons re_str (ra_cons re_str (ra_cons re_str ra_nil))) (starEach_ns rfl)))))))) (rss_one (rs_ret re_non)) rss_nil)
  (rss_one (rs_ret (re_tup (ra_cons (re_ix xd_ix (re_var (pv 1)) re_int) (ra_cons (re_var (pv 2)) (ra_cons (re_var (pv 3)) ra_nil))))))))))))))
theorem cd31 {G : Gx} {fa pa wa : Nat → Addr} {fd : Nat → FuncData} (T : Txt G.X.K G.X.mg G.ca fa pa wa fd G.X.w) (tk : Takes G.X G.E) (hr : Room 7 G.X.A) : CallD G (.ref (fa 20)) (mCall 1 [] m_law_reading) :=
  call_defE tk (ok_law_reading T) hr (bd_law_reading T) (fun _ => .nil)
end W19
namespace W19
open PySem PySem.Spec PyProof.Rows L2 ClX ItX Mi
theorem cd32 {G : Gx} {fa pa wa : Nat → Addr} {fd : Nat → FuncData} (T : Txt G.X.K G.X.mg G.ca fa pa wa fd G.X.w) (tk : Takes G.X G.E) (hr : Room 13 G.X.A) : CallD G (.ref (fa 8)) (mCall 1 [] m_read_fill) :=
  call_defE tk (ok_read_fill T) hr (bd_read_fill T) (fun _ => .nil)
theorem sbx33 {G : Gx} {fa pa wa : Nat → Addr} {fd : Nat → FuncData} (T : Txt G.X.K G.X.mg G.ca fa pa wa fd G.X.w) : ∀ c b, sub6 c = some b → PySem.W.exmOne G.X.K (.ref (G.ca c)) (.ref (G.ca 4)) = some b :=
  (al_cons T.exm4_c4 (al_cons T.exm16_c4 al_nil))
theorem ix34 {G : Gx} {fa pa wa : Nat → Addr} {fd : Nat → FuncData} (T : Txt G.X.K G.X.mg G.ca fa pa wa fd G.X.w) : ∀ c b, List.lookup c ([(4, false), (16, true)] : ClB) = some b → PySem.W.kitOne G.X.K (.ref (G.ca c)) (.ref (G.ca 16)) = some b ∧ ExcC G.X.K (G.ca c) ∧ (PySem.W.clsIn G.X.K (G.ca c)).isSome = true :=
  (al_cons ⟨T.kitx4_c16, T.xc4, T.xi4⟩ (al_cons ⟨T.kitx16_c16, T.xc16, T.xi16⟩ al_nil))
end W19
namespace W19
open PySem PySem.Spec PyProof.Rows L2 ClX ItX Mi
theorem ok_law_reads {P : Program} {w : World} {K : PySem.W.Frag} {mg : Str → Option Value} {base : Heap} {ca fa pa wa : Nat → Addr} {fd : Nat → FuncData} (T : Txt K mg ca fa pa wa fd w) : FnOk P w K mg base (L2.CX P w) 16 (fa 21) (fd 21) ["_law_text_here"] (spM K ca 1 m_law_reads) :=
  fn_okD (N := N_law_reads) (k := 15) (b := b_law_reads) T.F21 sc_law_reads fun cdv A outer s H E hr =>
  (rss_cons (rs_set (i := 1) sc_law_reads.nd rfl (by first | exact .inl rfl | exact .inr rfl) (re_call (cd31 T gx_tk (hr.mono (by decide))) rfl T.g20 T.F20.kp (ra_cons (re_var (pv 0)) ra_nil)))
  (rss_cons (rs_tryG rfl rfl gx_tk (.as (i := 3) sc_law_reads.nd rfl rfl ⟨rfl, by decide, .inl T.mgc4⟩ (sbx33 T) (fun a oe cls d pn hz hd => (rss_cons (rs_set (i := 4) sc_law_reads.nd rfl (by first | exact .inl rfl | exact .inr rfl) (re_and td_truS (re_isXL (v2 := V.ref (ca 0)) (ix23 T) rv_ref hz hd (pv 3) (pe_glob rfl T.mgc0 rfl) rfl T.z_isinstance) (re_one (re_isXL (v2 := V.ty "ValueError") (ix24 T) rv_ty hz hd (pv 3) (pe_bltn (u := .type "ValueError") rfl T.z_ValueError (by decide +kernel) rfl) rfl T.z_isinstance))))
  (rss_cons (rs_set (i := 4) sc_law_reads.nd rfl (by first | exact .inl rfl | exact .inr rfl) (re_and td_truS (re_var (pv 4)) (re_one (re_not td_truS (re_isXL (v2 := V.ref (ca 16)) (ix34 T) rv_ref hz hd (pv 3) (pe_glob rfl T.mgc16 rfl) rfl T.z_isinstance)))))
  (rss_one (rs_ret (re_and td_truS (re_cmp cd_is (re_var (pv 1)) re_non) (re_and td_truS (re_var (pv 4)) (re_and td_truS (re_call (call_defW takes0 (okw_law_whole T) (roomH_mk (hr.mono (by decide))) (bd_law_whole T) (fun _ => .nil)) rfl T.g13 T.F13.kp (ra_cons (re_xf (mb_cons ⟨T.xf4, T.na4_at⟩ (mb_cons ⟨T.xf16, T.na16_at⟩ mb_nil)) hz hd (pv 3)) ra_nil)) (re_one (re_cmp cd_eqS (re_xf (mb_cons ⟨T.xf4, T.na4_at⟩ (mb_cons ⟨T.xf16, T.na16_at⟩ mb_nil)) hz hd (pv 3)) re_int)))))))))) .nil) (fun W pn xe tk po => (rss_one (rs_set (i := 2) sc_law_reads.nd rfl (by first | exact .inl rfl | exact .inr rfl) (re_call (cd32 T tk (hr.mono (by decide))) rfl T.g8 T.F8.kp (ra_cons (re_var (pv 0)) ra_nil))))) rss_nil rfl)
  (rss_cons (rs_if (rt_w (rw_or (rt_cmp (tr0 T gx_tk (hr.mono (by decide))) cd_is (re_var (pv 1)) re_non) (rw_or1 (rt_not (rt_val (tr0 T gx_tk (hr.mono (by decide))) (re_call (cd26 T gx_tk (hr.mono (by decide))) rfl T.g16 T.F16.kp (ra_cons (re_var (pv 2)) (ra_cons (re_var (pv 1)) ra_nil)))))))) (rss_one (rs_ret re_bl)) rss_nil)
  (rss_one (rs_ret (re_and (tr0 T gx_tk (hr.mono (by decide))) (re_isiL (v2 := V.ty "str") (l := [(.non, false), (.bl, false), (.int, false), (.str, true), (.lst, false), (.tup, false)]) (is1 T) rv_ty (re_call (cd12 T gx_tk (hr.mono (by decide))) rfl T.g6 T.F6.kp (ra_cons (re_var (pv 2)) ra_nil)) (pe_bltn (u := .type "str") rfl T.z_str (by decide +kernel) rfl) rfl T.z_isinstance) (re_one (re_cmp (eqo2 T gx_tk (hr.mono (by decide))) (re_call (cd12 T gx_tk (hr.mono (by decide))) rfl T.g6 T.F6.kp (ra_cons (re_var (pv 2)) ra_nil)) (re_var (pv 0))))))))))
theorem cd35 {G : Gx} {fa pa wa : Nat → Addr} {fd : Nat → FuncData} (T : Txt G.X.K G.X.mg G.ca fa pa wa fd G.X.w) (tk : Takes G.X G.E) (hr : Room 7 G.X.A) : CallD G (.ref (fa 11)) (mCall 2 [] m_law_pick) :=
  call_defE tk (ok_law_pick T) hr (bd_law_pick T) (fun _ => .nil)
theorem ok_law_odd {P : Program} {w : World} {K : PySem.W.Frag} {mg : Str → Option Value} {base : Heap} {ca fa pa wa : Nat → Addr} {fd : Nat → FuncData} (T : Txt K mg ca fa pa wa fd w) : FnOk P w K mg base (L2.CX P w) 10 (fa 22) (fd 22) ["_law_pool_here"] (spM K ca 1 m_law_odd) :=
  fn_okD (N := N_law_odd) (k := 9) (b := b_law_odd) T.F22 sc_law_odd fun cdv A outer s H E hr =>
  (@rss_cons _ _ _ _ _ (@rs_setL _ _ _ 1 _ _ _ sc_law_odd.nd rfl (by first | exact .inl rfl | exact .inr rfl) (@re_l _ _ _ (@rl_lst _ _ _ _ (@ra_cons _ _ _ _ _ re_str (@ra_cons _ _ _ _ _ re_str (@ra_cons _ _ _ _ _ re_str (@ra_cons _ _ _ _ _ re_str (ra_cons re_str (ra_cons re_str (ra_cons re_str ra_nil))) (starEach_ns rfl)) (starEach_ns rfl)) (starEach_ns rfl)) (starEach_ns rfl)))) (swaps_ns rfl) (by first | exact .inl rfl | exact .inr rfl | assumption))
  (rss_cons (rs_set (i := 1) sc_law_odd.nd rfl (by first | exact .inl rfl | exact .inr rfl) (re_bin od_addL (re_var (pv 1)) (@re_l _ _ _ (@rl_lst _ _ _ _ (@ra_cons _ _ _ _ _ re_str (@ra_cons _ _ _ _ _ re_str (@ra_cons _ _ _ _ _ re_str (ra_cons re_str (ra_cons re_str (ra_cons re_str ra_nil))) (starEach_ns rfl)) (starEach_ns rfl)) (starEach_ns rfl))))))
  (rss_cons (rs_set (i := 1) sc_law_odd.nd rfl (by first | exact .inl rfl | exact .inr rfl) (re_bin od_addL (re_var (pv 1)) (@re_l _ _ _ (@rl_lst _ _ _ _ (@ra_cons _ _ _ _ _ re_str (@ra_cons _ _ _ _ _ re_str (ra_cons re_str (ra_cons re_str (ra_cons re_str ra_nil))) (starEach_ns rfl)) (starEach_ns rfl))))))
  (rss_cons (rs_set (i := 1) sc_law_odd.nd rfl (by first | exact .inl rfl | exact .inr rfl) (re_bin od_addL (re_var (pv 1)) (@re_l _ _ _ (@rl_lst _ _ _ _ (@ra_cons _ _ _ _ _ re_str (@ra_cons _ _ _ _ _ re_str (@ra_cons _ _ _ _ _ re_str (ra_cons re_str (ra_cons re_str (ra_cons re_str ra_nil))) (starEach_ns rfl)) (starEach_ns rfl)) (starEach_ns rfl))))))
  (rss_one (rs_ret (re_call (cd35 T gx_tk (hr.mono (by decide))) rfl T.g11 T.F11.kp (ra_cons (re_var (pv 0)) (ra_cons (re_var (pv 1)) ra_nil)))))))))
end W19
namespace W19
open PySem PySem.Spec PyProof.Rows L2 ClX ItX Mi
theorem cd36 {G : Gx} {fa pa wa : Nat → Addr} {fd : Nat → FuncData} (T : Txt G.X.K G.X.mg G.ca fa pa wa fd G.X.w) (tk : Takes G.X G.E) (hr : Room 4 G.X.A) : CallD G (.ref (fa 19)) (mCall 1 [] m_law_text) :=
  call_defE tk (ok_law_text T) hr (bd_law_text T) (fun _ => .nil)
theorem cd37 {G : Gx} {fa pa wa : Nat → Addr} {fd : Nat → FuncData} (T : Txt G.X.K G.X.mg G.ca fa pa wa fd G.X.w) (tk : Takes G.X G.E) (hr : Room 10 G.X.A) : CallD G (.ref (fa 22)) (mCall 1 [] m_law_odd) :=
  call_defE tk (ok_law_odd T) hr (bd_law_odd T) (fun _ => .nil)
theorem ok_law_spoilt {P : Program} {w : World} {K : PySem.W.Frag} {mg : Str → Option Value} {base : Heap} {ca fa pa wa : Nat → Addr} {fd : Nat → FuncData} (T : Txt K mg ca fa pa wa fd w) : FnOk P w K mg base (L2.CX P w) 13 (fa 23) (fd 23) ["_law_pool_here", "_law_step"] (spM K ca 2 m_law_spoilt) :=
  fn_okD (N := N_law_spoilt) (k := 12) (b := b_law_spoilt) T.F23 sc_law_spoilt fun cdv A outer s H E hr =>
  (rss_cons (rs_set (i := 2) sc_law_spoilt.nd rfl (by first | exact .inl rfl | exact .inr rfl) (re_call (cd36 T gx_tk (hr.mono (by decide))) rfl T.g19 T.F19.kp (ra_cons (re_var (pv 1)) ra_nil)))
  (rss_cons (rs_set (i := 3) sc_law_spoilt.nd rfl (by first | exact .inl rfl | exact .inr rfl) (re_bm PySem.F.plainAttrs_str PySem.F.slot_str_split PySem.F.type_str_split md_split (re_var (pv 2)) (ra_cons re_str ra_nil)))
  (rss_cons (rs_set (i := 4) sc_law_spoilt.nd rfl (by first | exact .inl rfl | exact .inr rfl) (re_call (cd16 T gx_tk (hr.mono (by decide))) rfl T.g10 T.F10.kp (ra_cons (re_var (pv 0)) (ra_cons re_int ra_nil))))
  (rss_cons (rs_set (i := 5) sc_law_spoilt.nd rfl (by first | exact .inl rfl | exact .inr rfl) (re_call (cd16 T gx_tk (hr.mono (by decide))) rfl T.g10 T.F10.kp (ra_cons (re_var (pv 0)) (ra_cons (re_callB (ln8 T gx_tk (hr.mono (by decide))) rfl T.z_len (by decide +kernel) (ra_cons (re_var (pv 2)) ra_nil)) ra_nil))))
  (rss_cons (rs_set (i := 6) sc_law_spoilt.nd rfl (by first | exact .inl rfl | exact .inr rfl) (re_call (cd35 T gx_tk (hr.mono (by decide))) rfl T.g11 T.F11.kp (ra_cons (re_var (pv 0)) (ra_cons re_str ra_nil))))
  (rss_cons (rs_if (rt_cmp (tr0 T gx_tk (hr.mono (by decide))) (eqo2 T gx_tk (hr.mono (by decide))) (re_var (pv 4)) re_int) (rss_one (rs_ret (re_bin od_addL (re_slice sd_sl (re_var (pv 2)) rp_none (rp_some (re_var (pv 5)))) (re_slice sd_sl (re_var (pv 2)) (rp_some (re_bin od_addL (re_var (pv 5)) re_int)) rp_none)))) rss_nil)
  (rss_cons (rs_if (rt_cmp (tr0 T gx_tk (hr.mono (by decide))) (eqo2 T gx_tk (hr.mono (by decide))) (re_var (pv 4)) re_int) (rss_one (rs_ret (re_bin od_addL (re_bin od_addL (re_slice sd_sl (re_var (pv 2)) rp_none (rp_some (re_var (pv 5)))) (re_var (pv 6))) (re_slice sd_sl (re_var (pv 2)) (rp_some (re_var (pv 5))) rp_none)))) rss_nil)
  (rss_cons (rs_if (rt_cmp (tr0 T gx_tk (hr.mono (by decide))) (eqo2 T gx_tk (hr.mono (by decide))) (re_var (pv 4)) re_int) (rss_one (rs_ret (re_bin od_addL (re_bin od_addL (re_slice sd_sl (re_var (pv 2)) rp_none (rp_some (re_var (pv 5)))) (re_var (pv 6))) (re_slice sd_sl (re_var (pv 2)) (rp_some (re_bin od_addL (re_var (pv 5)) re_int)) rp_none)))) rss_nil)
  (rss_cons (rs_if (rt_cmp (tr0 T gx_tk (hr.mono (by decide))) (eqo2 T gx_tk (hr.mono (by decide))) (re_var (pv 4)) re_int) (rss_one (rs_ret (re_bm PySem.F.plainAttrs_str PySem.F.slot_str_join PySem.F.type_str_join md_join re_str (ra_cons (re_bin od_addL (re_bin od_addL (re_slice sd_sl (re_var (pv 3)) rp_none (rp_some re_int)) (re_slice sd_sl (re_var (pv 3)) (rp_some re_int) rp_none)) (re_slice sd_sl (re_var (pv 3)) (rp_some re_int) (rp_some re_int))) ra_nil)))) rss_nil)
  (rss_cons (rs_if (rt_cmp (tr0 T gx_tk (hr.mono (by decide))) (eqo2 T gx_tk (hr.mono (by decide))) (re_var (pv 4)) re_int) (rss_one (rs_ret (re_bm PySem.F.plainAttrs_str PySem.F.slot_str_join PySem.F.type_str_join md_join re_str (ra_cons (re_bin od_addL (re_slice sd_sl (re_var (pv 3)) rp_none (rp_some (re_bin od_addL re_int (re_bin od_mod (re_var (pv 5)) re_int)))) (re_slice sd_sl (re_var (pv 3)) (rp_some (re_bin od_addL re_int (re_bin od_mod (re_var (pv 5)) re_int))) rp_none)) ra_nil)))) rss_nil)
  (rss_cons (rs_if (rt_cmp (tr0 T gx_tk (hr.mono (by decide))) (eqo2 T gx_tk (hr.mono (by decide))) (re_var (pv 4)) re_int) (rss_one (rs_ret (re_bm PySem.F.plainAttrs_str PySem.F.slot_str_join PySem.F.type_str_join md_join re_str (ra_cons (re_bin od_addL (re_slice sd_sl (re_var (pv 3)) rp_none (rp_some (re_bin od_addL re_int (re_bin od_mod (re_var (pv 5)) re_int)))) (re_slice sd_sl (re_var (pv 3)) (rp_some (re_bin od_mod (re_var (pv 5)) re_int)) rp_none)) ra_nil)))) rss_nil)
  (rss_one (rs_ret (re_call (cd37 T gx_tk (hr.mono (by decide))) rfl T.g22 T.F22.kp (ra_cons (re_var (pv 0)) ra_nil)))))))))))))))
end W19
namespace W19
open PySem PySem.Spec PyProof.Rows L2 ClX ItX Mi
theorem ok_law_limit {P : Program} {w : World} {K : PySem.W.Frag} {mg : Str → Option Value} {base : Heap} {ca fa pa wa : Nat → Addr} {fd : Nat → FuncData} (T : Txt K mg ca fa pa wa fd w) : FnOk P w K mg base (L2.CX P w) 10 (fa 24) (fd 24) ["_law_pool_here"] (spM K ca 1 m_law_limit) :=
  fn_okD (N := N_law_limit) (k := 9) (b := b_law_limit) T.F24 sc_law_limit fun cdv A outer s H E hr =>
  (rss_one (rs_ret (re_call (cd35 T gx_tk (hr.mono (by decide))) rfl T.g11 T.F11.kp (@ra_cons _ _ _ _ _ (re_var (pv 0)) (@ra_cons _ _ _ _ _ (@re_l _ _ _ (@rl_lst _ _ _ _ (@ra_cons _ _ _ _ _ re_int (@ra_cons _ _ _ _ _ re_non (@ra_cons _ _ _ _ _ re_int (@ra_cons _ _ _ _ _ re_int (@ra_cons _ _ _ _ _ re_int (@ra_cons _ _ _ _ _ re_int (@ra_cons _ _ _ _ _ re_int (@ra_cons _ _ _ _ _ re_non (@ra_cons _ _ _ _ _ re_int (@ra_cons _ _ _ _ _ re_int (@ra_cons _ _ _ _ _ (re_un ud_neg re_int) (@ra_cons _ _ _ _ _ (re_bin od_pow re_int re_int) (@ra_cons _ _ _ _ _ re_bl (ra_cons re_bl (ra_cons (re_un ud_neg re_int) (ra_cons re_int ra_nil))) (starEach_ns rfl)) (starEach_ns rfl)) (starEach_ns rfl)) (starEach_ns rfl)) (starEach_ns rfl)) (starEach_ns rfl)) (starEach_ns rfl)) (starEach_ns rfl)) (starEach_ns rfl)) (starEach_ns rfl)) (starEach_ns rfl)) (starEach_ns rfl)) (starEach_ns rfl)))) ra_nil (starEach_ns rfl)) (starEach_ns rfl)))))
theorem cd38 {G : Gx} {fa pa wa : Nat → Addr} {fd : Nat → FuncData} (T : Txt G.X.K G.X.mg G.ca fa pa wa fd G.X.w) (tk : Takes G.X G.E) (hr : Room 4 G.X.A) : CallD G (.ref (fa 12)) (mCall 1 [] m_law_letters) :=
  call_defE tk (ok_law_letters T) hr (bd_law_letters T) (fun _ => .nil)
theorem ok_law_stop {P : Program} {w : World} {K : PySem.W.Frag} {mg : Str → Option Value} {base : Heap} {ca fa pa wa : Nat → Addr} {fd : Nat → FuncData} (T : Txt K mg ca fa pa wa fd w) : FnOk P w K mg base (L2.CX P w) 10 (fa 25) (fd 25) ["_law_pool_here"] (spM K ca 1 m_law_stop) :=
  fn_okD (N := N_law_stop) (k := 9) (b := b_law_stop) T.F25 sc_law_stop fun cdv A outer s H E hr =>
  (@rss_cons _ _ _ _ _ (@rs_setL _ _ _ 1 _ _ _ sc_law_stop.nd rfl (by first | exact .inl rfl | exact .inr rfl) (@re_l _ _ _ (@rl_lst _ _ _ _ (@ra_cons _ _ _ _ _ re_str (@ra_cons _ _ _ _ _ re_str (@ra_cons _ _ _ _ _ re_str (@ra_cons _ _ _ _ _ re_str (@ra_cons _ _ _ _ _ re_str (@ra_cons _ _ _ _ _ re_str (@ra_cons _ _ _ _ _ re_str (@ra_cons _ _ _ _ _ re_str (@ra_cons _ _ _ _ _ re_str (ra_cons re_str (ra_cons re_str (ra_cons re_str ra_nil))) (starEach_ns rfl)) (starEach_ns rfl)) (starEach_ns rfl)) (starEach_ns rfl)) (starEach_ns rfl)) (starEach_ns rfl)) (starEach_ns rfl)) (starEach_ns rfl)) (starEach_ns rfl)))) (swaps_ns rfl) (by first | exact .inl rfl | exact .inr rfl | assumption))
  (rss_cons (rs_if (rt_cmp (tr0 T gx_tk (hr.mono (by decide))) (eqo2 T gx_tk (hr.mono (by decide))) (re_call (cd16 T gx_tk (hr.mono (by decide))) rfl T.g10 T.F10.kp (ra_cons (re_var (pv 0)) (ra_cons re_int ra_nil))) re_int) (rss_one (rs_ret (re_call (cd35 T gx_tk (hr.mono (by decide))) rfl T.g11 T.F11.kp (ra_cons (re_var (pv 0)) (ra_cons (re_var (pv 1)) ra_nil))))) rss_nil)
  (rss_one (rs_ret (re_call (cd38 T gx_tk (hr.mono (by decide))) rfl T.g12 T.F12.kp (ra_cons (re_bin od_mod (re_bin od_addL (re_call (cd16 T gx_tk (hr.mono (by decide))) rfl T.g10 T.F10.kp (ra_cons (re_var (pv 0)) (ra_cons re_int ra_nil))) re_int) re_int) ra_nil))))))
end W19
namespace W19
open PySem PySem.Spec PyProof.Rows L2 ClX ItX Mi
theorem ok_law_good {P : Program} {w : World} {K : PySem.W.Frag} {mg : Str → Option Value} {base : Heap} {ca fa pa wa : Nat → Addr} {fd : Nat → FuncData} (T : Txt K mg ca fa pa wa fd w) : FnOk P w K mg base (L2.CX P w) 10 (fa 26) (fd 26) ["_law_pool_here"] (spM K ca 1 m_law_good) :=
  fn_okD (N := N_law_good) (k := 9) (b := b_law_good) T.F26 sc_law_good fun cdv A outer s H E hr =>
  (rss_cons (rs_set (i := 1) sc_law_good.nd rfl (by first | exact .inl rfl | exact .inr rfl) (re_call (cd35 T gx_tk (hr.mono (by decide))) rfl T.g11 T.F11.kp (@ra_cons _ _ _ _ _ (re_var (pv 0)) (@ra_cons _ _ _ _ _ (@re_l _ _ _ (@rl_lst _ _ _ _ (@ra_cons _ _ _ _ _ re_str (@ra_cons _ _ _ _ _ re_str (ra_cons re_str (ra_cons re_str (ra_cons re_str ra_nil))) (starEach_ns rfl)) (starEach_ns rfl)))) ra_nil (starEach_ns rfl)) (starEach_ns rfl))))
  (rss_cons (rs_if (rt_cmp (tr0 T gx_tk (hr.mono (by decide))) (eqo2 T gx_tk (hr.mono (by decide))) (re_var (pv 1)) re_str) (rss_one (rs_ret (re_tup (ra_cons re_str (ra_cons re_non (ra_cons re_str ra_nil)))))) rss_nil)
  (rss_cons (rs_set (i := 2) sc_law_good.nd rfl (by first | exact .inl rfl | exact .inr rfl) (re_call (cd35 T gx_tk (hr.mono (by decide))) rfl T.g11 T.F11.kp (@ra_cons _ _ _ _ _ (re_var (pv 0)) (@ra_cons _ _ _ _ _ (@re_l _ _ _ (@rl_lst _ _ _ _ (@ra_cons _ _ _ _ _ re_int (@ra_cons _ _ _ _ _ re_non (@ra_cons _ _ _ _ _ re_int (@ra_cons _ _ _ _ _ re_int (ra_cons re_int (ra_cons re_int (ra_cons re_int ra_nil))) (starEach_ns rfl)) (starEach_ns rfl)) (starEach_ns rfl)) (starEach_ns rfl)))) ra_nil (starEach_ns rfl)) (starEach_ns rfl))))
  (rss_one (rs_ret (re_tup (ra_cons (re_var (pv 1)) (ra_cons (re_var (pv 2)) (ra_cons (re_call (cd38 T gx_tk (hr.mono (by decide))) rfl T.g12 T.F12.kp (ra_cons (re_bin od_mod (re_bin od_addL (re_call (cd16 T gx_tk (hr.mono (by decide))) rfl T.g10 T.F10.kp (ra_cons (re_var (pv 0)) (ra_cons re_int ra_nil))) re_int) re_int) ra_nil)) ra_nil)))))))))
theorem cd39 {G : Gx} {fa pa wa : Nat → Addr} {fd : Nat → FuncData} (T : Txt G.X.K G.X.mg G.ca fa pa wa fd G.X.w) (tk : Takes G.X G.E) (hr : Room 4 G.X.A) : CallD G (.ref (fa 9)) (mCall 1 [] m_law_pool) :=
  call_defE tk (ok_law_pool T) hr (bd_law_pool T) (fun _ => .nil)
theorem cd40 {G : Gx} {fa pa wa : Nat → Addr} {fd : Nat → FuncData} (T : Txt G.X.K G.X.mg G.ca fa pa wa fd G.X.w) (tk : Takes G.X G.E) (hr : Room 10 G.X.A) : CallD G (.ref (fa 24)) (mCall 1 [] m_law_limit) :=
  call_defE tk (ok_law_limit T) hr (bd_law_limit T) (fun _ => .nil)
end W19
namespace W19
open PySem PySem.Spec PyProof.Rows L2 ClX ItX Mi
theorem cd41 {G : Gx} {fa pa wa : Nat → Addr} {fd : Nat → FuncData} (T : Txt G.X.K G.X.mg G.ca fa pa wa fd G.X.w) (tk : Takes G.X G.E) (hr : Room 10 G.X.A) : CallD G (.ref (fa 25)) (mCall 1 [] m_law_stop) :=
  call_defE tk (ok_law_stop T) hr (bd_law_stop T) (fun _ => .nil)
theorem cd42 {G : Gx} {fa pa wa : Nat → Addr} {fd : Nat → FuncData} (T : Txt G.X.K G.X.mg G.ca fa pa wa fd G.X.w) (tk : Takes G.X G.E) (hr : Room 13 G.X.A) : CallD G (.ref (fa 17)) (mCall 3 [] m_law_made) :=
  call_defE tk (ok_law_made T) hr (bd_law_made T) (fun _ => .nil)
theorem cd43 {G : Gx} {fa pa wa : Nat → Addr} {fd : Nat → FuncData} (T : Txt G.X.K G.X.mg G.ca fa pa wa fd G.X.w) (tk : Takes G.X G.E) (hr : Room 13 G.X.A) : CallD G (.ref (fa 18)) (mCall 3 [] m_law_short) :=
  call_defE tk (ok_law_short T) hr (bd_law_short T) (fun _ => .nil)
end W19
namespace W19
open PySem PySem.Spec PyProof.Rows L2 ClX ItX Mi
theorem cd44 {G : Gx} {fa pa wa : Nat → Addr} {fd : Nat → FuncData} (T : Txt G.X.K G.X.mg G.ca fa pa wa fd G.X.w) (tk : Takes G.X G.E) (hr : Room 10 G.X.A) : CallD G (.ref (fa 26)) (mCall 1 [] m_law_good) :=
  call_defE tk (ok_law_good T) hr (bd_law_good T) (fun _ => .nil)
theorem cd45 {G : Gx} {fa pa wa : Nat → Addr} {fd : Nat → FuncData} (T : Txt G.X.K G.X.mg G.ca fa pa wa fd G.X.w) (tk : Takes G.X G.E) (hr : Room 13 G.X.A) : CallD G (.ref (fa 23)) (mCall 2 [] m_law_spoilt) :=
  call_defE tk (ok_law_spoilt T) hr (bd_law_spoilt T) (fun _ => .nil)
theorem cd46 {G : Gx} {fa pa wa : Nat → Addr} {fd : Nat → FuncData} (T : Txt G.X.K G.X.mg G.ca fa pa wa fd G.X.w) (tk : Takes G.X G.E) (hr : Room 16 G.X.A) : CallD G (.ref (fa 21)) (mCall 1 [] m_law_reads) :=
  call_defE tk (ok_law_reads T) hr (bd_law_reads T) (fun _ => .nil)
end W19
namespace W19
open PySem PySem.Spec PyProof.Rows L2 ClX ItX Mi
theorem ok_law {P : Program} {w : World} {K : PySem.W.Frag} {mg : Str → Option Value} {base : Heap} {ca fa pa wa : Nat → Addr} {fd : Nat → FuncData} (T : Txt K mg ca fa pa wa fd w) : FnOk P w K mg base (L2.CX P w) 19 (fa 27) (fd 27) ["_law_script"] (spM K ca 1 m_law) :=
  fn_okD (N := N_law) (k := 18) (b := b_law) T.F27 sc_law fun cdv A outer s H E hr =>
  (rss_cons (rs_set (i := 1) sc_law.nd rfl (by first | exact .inl rfl | exact .inr rfl) (re_call (cd39 T gx_tk (hr.mono (by decide))) rfl T.g9 T.F9.kp (ra_cons (re_var (pv 0)) ra_nil)))
  (@rss_cons _ _ _ _ _ (@rs_setL _ _ _ 2 _ _ _ sc_law.nd rfl (by first | exact .inl rfl | exact .inr rfl) (@re_l _ _ _ (@rl_lst _ _ _ _ (@ra_cons _ _ _ _ _ re_str (@ra_cons _ _ _ _ _ re_str (@ra_cons _ _ _ _ _ re_str (@ra_cons _ _ _ _ _ re_str (@ra_cons _ _ _ _ _ re_str (@ra_cons _ _ _ _ _ re_str (@ra_cons _ _ _ _ _ re_str (ra_cons re_str (ra_cons re_str (ra_cons re_str ra_nil))) (starEach_ns rfl)) (starEach_ns rfl)) (starEach_ns rfl)) (starEach_ns rfl)) (starEach_ns rfl)) (starEach_ns rfl)) (starEach_ns rfl)))) (swaps_ns rfl) (by first | exact .inl rfl | exact .inr rfl | assumption))
  (rss_cons (rs_for gx_po rfl (ri_range1 rfl T.z_range (ra_cons re_int ra_nil)) (rg_name (i := 3) (js := [3]) sc_law.nd rfl (by first | exact .inl rfl | exact .inr rfl) (by decide)) (rss_cons (rs_set (i := 4) sc_law.nd rfl (by first | exact .inl rfl | exact .inr rfl) (re_ix xd_ix (re_var (pv 2)) (re_bin od_mod (re_bin od_addL (re_call (cd16 T gx_tk (hr.mono (by decide))) rfl T.g10 T.F10.kp (ra_cons (re_var (pv 1)) (ra_cons re_int ra_nil))) (re_bin (op14 T gx_tk (hr.mono (by decide))) re_int (re_var (pv 3)))) re_int)))
  (rss_cons (rs_set (i := 5) sc_law.nd rfl (by first | exact .inl rfl | exact .inr rfl) (re_call (cd40 T gx_tk (hr.mono (by decide))) rfl T.g24 T.F24.kp (ra_cons (re_var (pv 1)) ra_nil)))
  (rss_cons (rs_set (i := 6) sc_law.nd rfl (by first | exact .inl rfl | exact .inr rfl) (re_call (cd41 T gx_tk (hr.mono (by decide))) rfl T.g25 T.F25.kp (ra_cons (re_var (pv 1)) ra_nil)))
  (rss_cons (rs_for gx_po rfl (ri_val (re_l (rl_lst (ra_cons (re_var (pv 5)) (ra_cons re_non ra_nil))))) (rg_name (i := 7) (js := [7]) sc_law.nd rfl (by first | exact .inl rfl | exact .inr rfl) (by decide)) (rss_one (rs_if (rt_w (rw_or (rt_not (rt_val (tr0 T gx_tk (hr.mono (by decide))) (re_call (cd42 T gx_tk (hr.mono (by decide))) rfl T.g17 T.F17.kp (ra_cons (re_var (pv 4)) (ra_cons (re_var (pv 7)) (ra_cons (re_var (pv 6)) ra_nil)))))) (rw_or1 (rt_not (rt_val (tr0 T gx_tk (hr.mono (by decide))) (re_call (cd42 T gx_tk (hr.mono (by decide))) rfl T.g17 T.F17.kp (ra_cons (re_var (pv 4)) (ra_cons (re_var (pv 7)) (ra_cons re_str ra_nil))))))))) (rss_one (rs_ret re_bl)) rss_nil)))
  (rss_one (rs_if (rt_not (rt_val (tr0 T gx_tk (hr.mono (by decide))) (re_call (cd43 T gx_tk (hr.mono (by decide))) rfl T.g18 T.F18.kp (ra_cons (re_var (pv 4)) (ra_cons (re_var (pv 5)) (ra_cons (re_var (pv 6)) ra_nil)))))) (rss_one (rs_ret re_bl)) rss_nil)))))))
  (rss_cons (rs_set (i := 8) sc_law.nd rfl (by first | exact .inl rfl | exact .inr rfl) (re_call (cd44 T gx_tk (hr.mono (by decide))) rfl T.g26 T.F26.kp (ra_cons (re_var (pv 1)) ra_nil)))
  (rss_cons (rs_own (ps_set (i := 9) sc_law.nd rfl (by first | exact .inl rfl | exact .inr rfl) pe_q (by first | exact swaps_ns rfl | rfl)) (rl_lst (ra_cons (re_call (cd36 T gx_tk (hr.mono (by decide))) rfl T.g19 T.F19.kp (ra_cons (re_var (pv 8)) ra_nil)) (ra_cons (re_call (cd37 T gx_tk (hr.mono (by decide))) rfl T.g22 T.F22.kp (ra_cons (re_var (pv 1)) ra_nil)) ra_nil))))
  (rss_cons (rs_for gx_po rfl (ri_range1 rfl T.z_range (ra_cons re_int ra_nil)) (rg_name (i := 3) (js := [3]) sc_law.nd rfl (by first | exact .inl rfl | exact .inr rfl) (by decide)) (rss_one (rs_appO (pv 9) (re_call (cd45 T gx_tk (hr.mono (by decide))) rfl T.g23 T.F23.kp (ra_cons (re_var (pv 1)) (ra_cons (re_var (pv 8)) ra_nil))))))
  (rss_frz 9 (rss_cons (rs_for gx_po rfl (ri_val (re_var (pv 9))) (rg_name (i := 10) (js := [10]) sc_law.nd rfl (by first | exact .inl rfl | exact .inr rfl) (by decide)) (rss_one (rs_if (rt_not (rt_val (tr0 T gx_tk (hr.mono (by decide))) (re_call (cd46 T gx_tk (hr.mono (by decide))) rfl T.g21 T.F21.kp (ra_cons (re_var (pv 10)) ra_nil)))) (rss_one (rs_ret re_bl)) rss_nil)))
  (rss_cons (rs_set (i := 10) sc_law.nd rfl (by first | exact .inl rfl | exact .inr rfl) (re_call (cd36 T gx_tk (hr.mono (by decide))) rfl T.g19 T.F19.kp (ra_cons (re_var (pv 8)) ra_nil)))
  (rss_one (rs_ret (re_and (tr0 T gx_tk (hr.mono (by decide))) (re_cmp (eqo2 T gx_tk (hr.mono (by decide))) (re_call (cd12 T gx_tk (hr.mono (by decide))) rfl T.g6 T.F6.kp (ra_cons (re_var (pv 8)) ra_nil)) (re_var (pv 10))) (re_one (re_call (cd26 T gx_tk (hr.mono (by decide))) rfl T.g16 T.F16.kp (ra_cons (re_call (cd32 T gx_tk (hr.mono (by decide))) rfl T.g8 T.F8.kp (ra_cons (re_var (pv 10)) ra_nil)) (ra_cons (re_var (pv 8)) ra_nil))))))))))))))))
end W19
namespace W19
open PySem PySem.Spec PyProof.Rows L2 ClX ItX Mi
theorem all_mkK {l : PySem.W.OpenLaw} {w : World} {K : PySem.W.Frag} {h : Heap} {mg : Str → Option Value} {fx : Addr} (X : K.In h) (G : h.Ns mainGlobals mg) (hfa : mg "law" = some (.ref fx)) (cD : SaysD hChk hFn hTabs w K)
    : ∃ fd : FuncData, (∀ (s : Shared) (v : Value), BindsTo s fd ⟨[v], []⟩ [("_law_script", v)]) ∧ ∀ base : Heap, K.In base → base.Ns mainGlobals mg → FnOk l.prog w K mg base (L2.CX l.prog w) 19 fx fd ["_law_script"] (spLaw m_law K) := by
  have c := cD.m
  have x0 : PySem.W.nsIn K mainGlobals "BadText" = some (some (.ref (aC4 K))) := (of_decide_eq_true (c.fact 0 rfl))
  have x1 : PySem.W.findIn K (.ref (aC4 K)) "__init__" = some (some (.ref (aF0 K))) := (of_decide_eq_true (c.fact 1 rfl))
  have x2 : PySem.W.findIn K (.ref (aC4 K)) "__setattr__" = some (some (.builtin "object.__setattr__")) := (of_decide_eq_true (c.fact 2 rfl))
  have x3 : PySem.W.subIn K (.ref (aC4 K)) (.type "BaseException") = some true := (of_decide_eq_true (c.fact 3 rfl))
  have x4 : PySem.W.typeIn K (.ref (aC4 K)) = some (.type "type") := (of_decide_eq_true (c.fact 4 rfl))
  have x5 : PySem.W.keepIn K (.ref (aC4 K)) = true := (c.fact 5 rfl)
  have x6 : PySem.W.findIn K (.ref (aC4 K)) "at" = some none := (of_decide_eq_true (c.fact 7 rfl))
  have x7 : PySem.W.nsIn K mainGlobals "BadStep" = some (some (.ref (aC16 K))) := (of_decide_eq_true (c.fact 8 rfl))
  have x8 : PySem.W.findIn K (.ref (aC16 K)) "__init__" = some (some (.ref (aF1 K))) := (of_decide_eq_true (c.fact 9 rfl))
  have x9 : PySem.W.findIn K (.ref (aC16 K)) "__setattr__" = some (some (.builtin "object.__setattr__")) := (of_decide_eq_true (c.fact 10 rfl))
  have x10 : PySem.W.subIn K (.ref (aC16 K)) (.type "BaseException") = some true := (of_decide_eq_true (c.fact 11 rfl))
  have x11 : PySem.W.typeIn K (.ref (aC16 K)) = some (.type "type") := (of_decide_eq_true (c.fact 12 rfl))
  have x12 : PySem.W.keepIn K (.ref (aC16 K)) = true := (c.fact 13 rfl)
  have x13 : PySem.W.findIn K (.ref (aC16 K)) "at" = some none := (of_decide_eq_true (c.fact 15 rfl))
  have x14 : PySem.W.nsIn K mainGlobals "is_halt" = some (some (.ref (aF2 K))) := (of_decide_eq_true (c.fact 16 rfl))
  have x15 : PySem.W.nsIn K mainGlobals "isinstance" = some none := (of_decide_eq_true (c.fact 17 rfl))
  have x16 : PySem.W.nsIn K mainGlobals "str" = some none := (of_decide_eq_true (c.fact 18 rfl))
  have x17 : PySem.W.kitOne K (.type "NoneType") (.type "str") = some false := (of_decide_eq_true (c.fact 19 rfl))
  have x18 : PySem.W.kitOne K (.type "bool") (.type "str") = some false := (of_decide_eq_true (c.fact 20 rfl))
  have x19 : PySem.W.kitOne K (.type "int") (.type "str") = some false := (of_decide_eq_true (c.fact 21 rfl))
  have x20 : PySem.W.kitOne K (.type "str") (.type "str") = some true := (of_decide_eq_true (c.fact 22 rfl))
  have x21 : PySem.W.kitOne K (.type "list") (.type "str") = some false := (of_decide_eq_true (c.fact 23 rfl))
  have x22 : PySem.W.kitOne K (.type "tuple") (.type "str") = some false := (of_decide_eq_true (c.fact 24 rfl))
  have x23 : PySem.W.nsIn K mainGlobals "Marks" = some (some (.ref (aC43 K))) := (of_decide_eq_true (c.fact 25 rfl))
  have x24 : PySem.W.readsIn K (aC43 K) (.type "type") = true := (c.fact 26 rfl)
  have x25 : PySem.W.specialIn K (.ref (aC43 K)) "__getattribute__" = some (some (.builtin "type.__getattribute__")) := (of_decide_eq_true (c.fact 27 rfl))
  have x26 : PySem.W.nsIn K mainGlobals "is_limit" = some (some (.ref (aF3 K))) := (of_decide_eq_true (c.fact 29 rfl))
  have x27 : PySem.W.nsIn K mainGlobals "int" = some none := (of_decide_eq_true (c.fact 30 rfl))
  have x28 : PySem.W.kitOne K (.type "NoneType") (.type "int") = some false := (of_decide_eq_true (c.fact 31 rfl))
  have x29 : PySem.W.kitOne K (.type "bool") (.type "int") = some true := (of_decide_eq_true (c.fact 32 rfl))
  have x30 : PySem.W.kitOne K (.type "int") (.type "int") = some true := (of_decide_eq_true (c.fact 33 rfl))
  have x31 : PySem.W.kitOne K (.type "str") (.type "int") = some false := (of_decide_eq_true (c.fact 34 rfl))
  have x32 : PySem.W.kitOne K (.type "list") (.type "int") = some false := (of_decide_eq_true (c.fact 35 rfl))
  have x33 : PySem.W.kitOne K (.type "tuple") (.type "int") = some false := (of_decide_eq_true (c.fact 36 rfl))
  have x34 : PySem.W.nsIn K mainGlobals "bool" = some none := (of_decide_eq_true (c.fact 37 rfl))
  have x35 : PySem.W.kitOne K (.type "NoneType") (.type "bool") = some false := (of_decide_eq_true (c.fact 38 rfl))
  have x36 : PySem.W.kitOne K (.type "bool") (.type "bool") = some true := (of_decide_eq_true (c.fact 39 rfl))
  have x37 : PySem.W.kitOne K (.type "int") (.type "bool") = some false := (of_decide_eq_true (c.fact 40 rfl))
  have x38 : PySem.W.kitOne K (.type "str") (.type "bool") = some false := (of_decide_eq_true (c.fact 41 rfl))
  have x39 : PySem.W.kitOne K (.type "list") (.type "bool") = some false := (of_decide_eq_true (c.fact 42 rfl))
  have x40 : PySem.W.kitOne K (.type "tuple") (.type "bool") = some false := (of_decide_eq_true (c.fact 43 rfl))
  have x41 : PySem.W.nsIn K mainGlobals "is_fill_step" = some (some (.ref (aF4 K))) := (of_decide_eq_true (c.fact 45 rfl))
  have x42 : PySem.W.nsIn K mainGlobals "tuple" = some none := (of_decide_eq_true (c.fact 46 rfl))
  have x43 : PySem.W.kitOne K (.type "NoneType") (.type "tuple") = some false := (of_decide_eq_true (c.fact 47 rfl))
  have x44 : PySem.W.kitOne K (.type "bool") (.type "tuple") = some false := (of_decide_eq_true (c.fact 48 rfl))
  have x45 : PySem.W.kitOne K (.type "int") (.type "tuple") = some false := (of_decide_eq_true (c.fact 49 rfl))
  have x46 : PySem.W.kitOne K (.type "str") (.type "tuple") = some false := (of_decide_eq_true (c.fact 50 rfl))
  have x47 : PySem.W.kitOne K (.type "list") (.type "tuple") = some false := (of_decide_eq_true (c.fact 51 rfl))
  have x48 : PySem.W.kitOne K (.type "tuple") (.type "tuple") = some true := (of_decide_eq_true (c.fact 52 rfl))
  have x49 : PySem.W.nsIn K mainGlobals "len" = some none := (of_decide_eq_true (c.fact 53 rfl))
  have x50 : PySem.W.nsIn K mainGlobals "DROP_STEP" = some (some (.ref (aW0 K))) := (of_decide_eq_true (c.fact 55 rfl))
  have x51 : PySem.W.nsIn K mainGlobals "FILL_WAYS" = some (some (.ref (aW1 K))) := (of_decide_eq_true (c.fact 57 rfl))
  have x52 : PySem.W.nsIn K mainGlobals "fill_step" = some (some (.ref (aF5 K))) := (of_decide_eq_true (c.fact 58 rfl))
  have x53 : PySem.W.typeIn K (.ref (aF1 K)) = some (.type "function") := (of_decide_eq_true (c.fact 59 rfl))
  have x54 : PySem.W.nsIn K mainGlobals "fill_text" = some (some (.ref (aF6 K))) := (of_decide_eq_true (c.fact 60 rfl))
  have x55 : PySem.W.nsIn K mainGlobals "step_of" = some (some (.ref (aF7 K))) := (of_decide_eq_true (c.fact 61 rfl))
  have x56 : PySem.W.nsIn K mainGlobals "zip" = some none := (of_decide_eq_true (c.fact 62 rfl))
  have x57 : PySem.W.nsIn K mainGlobals "read_fill" = some (some (.ref (aF8 K))) := (of_decide_eq_true (c.fact 65 rfl))
  have x58 : PySem.W.typeIn K (.ref (aF0 K)) = some (.type "function") := (of_decide_eq_true (c.fact 66 rfl))
  have x59 : PySem.W.nsIn K mainGlobals "_law_pool" = some (some (.ref (aF9 K))) := (of_decide_eq_true (c.fact 67 rfl))
  have x60 : PySem.W.nsIn K mainGlobals "abs" = some none := (of_decide_eq_true (c.fact 68 rfl))
  have x61 : PySem.W.nsIn K mainGlobals "_law_draw" = some (some (.ref (aF10 K))) := (of_decide_eq_true (c.fact 69 rfl))
  have x62 : PySem.W.nsIn K mainGlobals "_law_pick" = some (some (.ref (aF11 K))) := (of_decide_eq_true (c.fact 70 rfl))
  have x63 : PySem.W.nsIn K mainGlobals "_law_letters" = some (some (.ref (aF12 K))) := (of_decide_eq_true (c.fact 71 rfl))
  have x64 : PySem.W.nsIn K mainGlobals "_law_whole" = some (some (.ref (aF13 K))) := (of_decide_eq_true (c.fact 72 rfl))
  have x65 : PySem.W.nsIn K mainGlobals "_law_set" = some (some (.ref (aF14 K))) := (of_decide_eq_true (c.fact 73 rfl))
  have x66 : PySem.W.nsIn K mainGlobals "_law_valid" = some (some (.ref (aF15 K))) := (of_decide_eq_true (c.fact 74 rfl))
  have x67 : PySem.W.nsIn K mainGlobals "_law_is_step" = some (some (.ref (aF16 K))) := (of_decide_eq_true (c.fact 75 rfl))
  have x68 : PySem.W.nsIn K mainGlobals "_law_made" = some (some (.ref (aF17 K))) := (of_decide_eq_true (c.fact 76 rfl))
  have x69 : PySem.W.exmOne K (.ref (aC16 K)) (.ref (aC16 K)) = some true := (of_decide_eq_true (c.fact 78 rfl))
  have x70 : PySem.W.exmOne K (.ref (aC4 K)) (.ref (aC16 K)) = some false := (of_decide_eq_true (c.fact 79 rfl))
  have x71 : PySem.W.nsIn K mainGlobals "BureauError" = some (some (.ref (aC0 K))) := (of_decide_eq_true (c.fact 80 rfl))
  have x72 : PySem.W.kitOne K (.ref (aC16 K)) (.ref (aC0 K)) = some true := (of_decide_eq_true (c.fact 81 rfl))
  have x73 : PySem.W.findIn K (.ref (aC16 K)) "__getattribute__" = some (some (.builtin "BaseException.__getattribute__")) := (of_decide_eq_true (c.fact 82 rfl))
  have x74 : PySem.W.findIn K (.ref (aC16 K)) "__getattr__" = some none := (of_decide_eq_true (c.fact 83 rfl))
  have x75 : PySem.W.subIn K (.ref (aC16 K)) (.type "BaseException") = some true := (of_decide_eq_true (c.fact 11 rfl))
  have x76 : PySem.W.hasDictIn K (aC16 K) = true := (c.fact 84 rfl)
  have x77 : PySem.W.findIn K (.ref (aC16 K)) "__class__" = some (some (.builtin "object.__class__")) := (of_decide_eq_true (c.fact 85 rfl))
  have x78 : PySem.W.specialIn K (.builtin "object.__class__") "__get__" = some (some (.builtin "getset_descriptor.__get__")) := (of_decide_eq_true (c.fact 86 rfl))
  have x79 : PySem.W.takesIn K (.builtin "object.__class__") = some true := (of_decide_eq_true (c.fact 87 rfl))
  have x80 : PySem.W.mroIn K (aC16 K) (.type "object") = some true := (of_decide_eq_true (c.fact 88 rfl))
  have x81 : PySem.W.isClsIn K (aC16 K) = true := (c.fact 89 rfl)
  have x82 : PySem.W.kitOne K (.ref (aC4 K)) (.ref (aC0 K)) = some true := (of_decide_eq_true (c.fact 90 rfl))
  have x83 : PySem.W.findIn K (.ref (aC4 K)) "__getattribute__" = some (some (.builtin "BaseException.__getattribute__")) := (of_decide_eq_true (c.fact 91 rfl))
  have x84 : PySem.W.findIn K (.ref (aC4 K)) "__getattr__" = some none := (of_decide_eq_true (c.fact 92 rfl))
  have x85 : PySem.W.subIn K (.ref (aC4 K)) (.type "BaseException") = some true := (of_decide_eq_true (c.fact 3 rfl))
  have x86 : PySem.W.hasDictIn K (aC4 K) = true := (c.fact 93 rfl)
  have x87 : PySem.W.findIn K (.ref (aC4 K)) "__class__" = some (some (.builtin "object.__class__")) := (of_decide_eq_true (c.fact 94 rfl))
  have x88 : PySem.W.specialIn K (.builtin "object.__class__") "__get__" = some (some (.builtin "getset_descriptor.__get__")) := (of_decide_eq_true (c.fact 86 rfl))
  have x89 : PySem.W.takesIn K (.builtin "object.__class__") = some true := (of_decide_eq_true (c.fact 87 rfl))
  have x90 : PySem.W.mroIn K (aC4 K) (.type "object") = some true := (of_decide_eq_true (c.fact 95 rfl))
  have x91 : PySem.W.isClsIn K (aC4 K) = true := (c.fact 96 rfl)
  have x92 : PySem.W.nsIn K mainGlobals "ValueError" = some none := (of_decide_eq_true (c.fact 97 rfl))
  have x93 : PySem.W.kitOne K (.ref (aC16 K)) (.type "ValueError") = some true := (of_decide_eq_true (c.fact 98 rfl))
  have x94 : PySem.W.kitOne K (.ref (aC4 K)) (.type "ValueError") = some true := (of_decide_eq_true (c.fact 99 rfl))
  have x95 : PySem.W.kitOne K (.ref (aC16 K)) (.ref (aC4 K)) = some false := (of_decide_eq_true (c.fact 100 rfl))
  have x96 : PySem.W.kitOne K (.ref (aC4 K)) (.ref (aC4 K)) = some true := (of_decide_eq_true (c.fact 101 rfl))
  have x97 : PySem.W.findIn K (.ref (aC16 K)) "__getattribute__" = some (some (.builtin "BaseException.__getattribute__")) := (of_decide_eq_true (c.fact 82 rfl))
  have x98 : PySem.W.findIn K (.ref (aC16 K)) "__getattr__" = some none := (of_decide_eq_true (c.fact 83 rfl))
  have x99 : PySem.W.subIn K (.ref (aC16 K)) (.type "BaseException") = some true := (of_decide_eq_true (c.fact 11 rfl))
  have x100 : PySem.W.hasDictIn K (aC16 K) = true := (c.fact 84 rfl)
  have x101 : PySem.W.findIn K (.ref (aC4 K)) "__getattribute__" = some (some (.builtin "BaseException.__getattribute__")) := (of_decide_eq_true (c.fact 91 rfl))
  have x102 : PySem.W.findIn K (.ref (aC4 K)) "__getattr__" = some none := (of_decide_eq_true (c.fact 92 rfl))
  have x103 : PySem.W.subIn K (.ref (aC4 K)) (.type "BaseException") = some true := (of_decide_eq_true (c.fact 3 rfl))
  have x104 : PySem.W.hasDictIn K (aC4 K) = true := (c.fact 93 rfl)
  have x105 : PySem.W.nsIn K mainGlobals "_law_short" = some (some (.ref (aF18 K))) := (of_decide_eq_true (c.fact 102 rfl))
  have x106 : PySem.W.nsIn K mainGlobals "_law_text" = some (some (.ref (aF19 K))) := (of_decide_eq_true (c.fact 103 rfl))
  have x107 : PySem.W.nsIn K mainGlobals "_law_reading" = some (some (.ref (aF20 K))) := (of_decide_eq_true (c.fact 104 rfl))
  have x108 : PySem.W.nsIn K mainGlobals "_law_reads" = some (some (.ref (aF21 K))) := (of_decide_eq_true (c.fact 105 rfl))
  have x109 : PySem.W.exmOne K (.ref (aC16 K)) (.ref (aC4 K)) = some false := (of_decide_eq_true (c.fact 106 rfl))
  have x110 : PySem.W.exmOne K (.ref (aC4 K)) (.ref (aC4 K)) = some true := (of_decide_eq_true (c.fact 107 rfl))
  have x111 : PySem.W.kitOne K (.ref (aC16 K)) (.ref (aC16 K)) = some true := (of_decide_eq_true (c.fact 108 rfl))
  have x112 : PySem.W.kitOne K (.ref (aC4 K)) (.ref (aC16 K)) = some false := (of_decide_eq_true (c.fact 109 rfl))
  have x113 : PySem.W.nsIn K mainGlobals "_law_odd" = some (some (.ref (aF22 K))) := (of_decide_eq_true (c.fact 110 rfl))
  have x114 : PySem.W.nsIn K mainGlobals "_law_spoilt" = some (some (.ref (aF23 K))) := (of_decide_eq_true (c.fact 111 rfl))
  have x115 : PySem.W.nsIn K mainGlobals "_law_limit" = some (some (.ref (aF24 K))) := (of_decide_eq_true (c.fact 112 rfl))
  have x116 : PySem.W.nsIn K mainGlobals "_law_stop" = some (some (.ref (aF25 K))) := (of_decide_eq_true (c.fact 113 rfl))
  have x117 : PySem.W.nsIn K mainGlobals "_law_good" = some (some (.ref (aF26 K))) := (of_decide_eq_true (c.fact 114 rfl))
  have x118 : PySem.W.nsIn K mainGlobals "law" = some (some (.ref (aF27 K))) := (of_decide_eq_true (c.fact 115 rfl))
  have x119 : PySem.W.nsIn K mainGlobals "range" = some none := (of_decide_eq_true (c.fact 116 rfl))
  have e : (aF27 K) = fx := by have e0 := hfa.symm.trans (PySem.W.mg_of X G x118); cases e0; rfl
  subst e
  have T : Txt K mg (fun n => [(aC0 K), 0, 0, 0, (aC4 K), 0, 0, 0, 0, 0, 0, 0, 0, 0, 0, 0, (aC16 K), 0, 0, 0, 0, 0, 0, 0, 0, 0, 0, 0, 0, 0, 0, 0, 0, 0, 0, 0, 0, 0, 0, 0, 0, 0, 0, (aC43 K)].getD n 0) (fun n => [(aF0 K), (aF1 K), (aF2 K), (aF3 K), (aF4 K), (aF5 K), (aF6 K), (aF7 K), (aF8 K), (aF9 K), (aF10 K), (aF11 K), (aF12 K), (aF13 K), (aF14 K), (aF15 K), (aF16 K), (aF17 K), (aF18 K), (aF19 K), (aF20 K), (aF21 K), (aF22 K), (aF23 K), (aF24 K), (aF25 K), (aF26 K), (aF27 K)].getD n 0) (fun n => [0, 0, 0, 0, 0, 0, 0, 0, 0, 0, 0, 0, 0, 0, 0, 0, 0, 0, 0, 0, 0, 0, 0, 0, 0, 0, 0, 0].getD n 0) (fun n => [(aW0 K), (aW1 K)].getD n 0) (fun n => fdAt K ([(aF0 K), (aF1 K), (aF2 K), (aF3 K), (aF4 K), (aF5 K), (aF6 K), (aF7 K), (aF8 K), (aF9 K), (aF10 K), (aF11 K), (aF12 K), (aF13 K), (aF14 K), (aF15 K), (aF16 K), (aF17 K), (aF18 K), (aF19 K), (aF20 K), (aF21 K), (aF22 K), (aF23 K), (aF24 K), (aF25 K), (aF26 K), (aF27 K)].getD n 0)) w := {
    mgc4 := PySem.W.mg_of X G x0
    fi0 := x1
    F0 := c.fd 0 rfl
    ox4 := ⟨oxB_ok (c.fact 6 rfl), x2, x3, x4, x5⟩
    na4_at := x6
    mgc16 := PySem.W.mg_of X G x7
    fi1 := x8
    F1 := c.fd 1 rfl
    ox16 := ⟨oxB_ok (c.fact 14 rfl), x9, x10, x11, x12⟩
    na16_at := x13
    g2 := PySem.W.mg_of X G x14
    F2 := c.fd 2 rfl
    z_isinstance := PySem.W.mg_none_of X G x15
    z_str := PySem.W.mg_none_of X G x16
    kit_non_str := x17
    kit_bl_str := x18
    kit_int_str := x19
    kit_str_str := x20
    kit_lst_str := x21
    kit_tup_str := x22
    mgc43 := PySem.W.mg_of X G x23
    cr43 := ⟨x24, x25⟩
    cv43_ALL := cvB_ok (c.fact 28 rfl)
    g3 := PySem.W.mg_of X G x26
    F3 := c.fd 3 rfl
    z_int := PySem.W.mg_none_of X G x27
    kit_non_int := x28
    kit_bl_int := x29
    kit_int_int := x30
    kit_str_int := x31
    kit_lst_int := x32
    kit_tup_int := x33
    z_bool := PySem.W.mg_none_of X G x34
    kit_non_bool := x35
    kit_bl_bool := x36
    kit_int_bool := x37
    kit_str_bool := x38
    kit_lst_bool := x39
    kit_tup_bool := x40
    gc_MOST_ROWS := gcB_ok X G (c.fact 44 rfl)
    g4 := PySem.W.mg_of X G x41
    F4 := c.fd 4 rfl
    z_tuple := PySem.W.mg_none_of X G x42
    kit_non_tuple := x43
    kit_bl_tuple := x44
    kit_int_tuple := x45
    kit_str_tuple := x46
    kit_lst_tuple := x47
    kit_tup_tuple := x48
    z_len := PySem.W.mg_none_of X G x49
    wt0 := tupB_ok (c.fact 54 rfl)
    gt_DROP_STEP := PySem.W.mg_of X G x50
    wt1 := tupB_ok (c.fact 56 rfl)
    gt_FILL_WAYS := PySem.W.mg_of X G x51
    g5 := PySem.W.mg_of X G x52
    F5 := c.fd 5 rfl
    ti1 := x53
    g6 := PySem.W.mg_of X G x54
    F6 := c.fd 6 rfl
    g7 := PySem.W.mg_of X G x55
    F7 := c.fd 7 rfl
    z_zip := PySem.W.mg_none_of X G x56
    kt_NUMBERS := ⟨He.ga K "NUMBERS", PySem.W.mg_of X G (of_decide_eq_true (c.fact 63 rfl)), ktab_of (cD.tab 0 rfl) (c.fact 64 rfl)⟩
    g8 := PySem.W.mg_of X G x57
    F8 := c.fd 8 rfl
    ti0 := x58
    g9 := PySem.W.mg_of X G x59
    F9 := c.fd 9 rfl
    z_abs := PySem.W.mg_none_of X G x60
    g10 := PySem.W.mg_of X G x61
    F10 := c.fd 10 rfl
    g11 := PySem.W.mg_of X G x62
    F11 := c.fd 11 rfl
    g12 := PySem.W.mg_of X G x63
    F12 := c.fd 12 rfl
    g13 := PySem.W.mg_of X G x64
    F13 := c.fd 13 rfl
    g14 := PySem.W.mg_of X G x65
    F14 := c.fd 14 rfl
    g15 := PySem.W.mg_of X G x66
    F15 := c.fd 15 rfl
    g16 := PySem.W.mg_of X G x67
    F16 := c.fd 16 rfl
    g17 := PySem.W.mg_of X G x68
    F17 := c.fd 17 rfl
    FK5 := fdk_of (c.fd 5 rfl) (c.fact 77 rfl)
    exm16_c16 := x69
    exm4_c16 := x70
    mgc0 := PySem.W.mg_of X G x71
    kitx16_c0 := x72
    xc16 := ⟨x73, x74, x75, x76, x77, x78, x79, x80⟩
    xi16 := x81
    kitx4_c0 := x82
    xc4 := ⟨x83, x84, x85, x86, x87, x88, x89, x90⟩
    xi4 := x91
    z_ValueError := PySem.W.mg_none_of X G x92
    kitx16_ValueError := x93
    kitx4_ValueError := x94
    kitx16_c4 := x95
    kitx4_c4 := x96
    xf16 := ⟨x97, x98, x99, x100⟩
    xf4 := ⟨x101, x102, x103, x104⟩
    g18 := PySem.W.mg_of X G x105
    F18 := c.fd 18 rfl
    g19 := PySem.W.mg_of X G x106
    F19 := c.fd 19 rfl
    g20 := PySem.W.mg_of X G x107
    F20 := c.fd 20 rfl
    g21 := PySem.W.mg_of X G x108
    F21 := c.fd 21 rfl
    exm16_c4 := x109
    exm4_c4 := x110
    kitx16_c16 := x111
    kitx4_c16 := x112
    g22 := PySem.W.mg_of X G x113
    F22 := c.fd 22 rfl
    g23 := PySem.W.mg_of X G x114
    F23 := c.fd 23 rfl
    g24 := PySem.W.mg_of X G x115
    F24 := c.fd 24 rfl
    g25 := PySem.W.mg_of X G x116
    F25 := c.fd 25 rfl
    g26 := PySem.W.mg_of X G x117
    F26 := c.fd 26 rfl
    g27 := PySem.W.mg_of X G x118
    F27 := c.fd 27 rfl
    z_range := PySem.W.mg_none_of X G x119
  }
  have b := FunD.bindsA (ps := ["_law_script"]) (SaysM.fd c 27 rfl) fun _ _ _ _ _ _ us hl => match us, hl with | [_], _ => rfl
  exact ⟨fdAt K (aF27 K), fun s v => b s [v] rfl, fun base _ _ => law_fn (ok_law T)⟩
end W19
/-! MiEv: the mirrors evaluated by simp: applied forms, lazily. -/
namespace Mi
open PySem PySem.Spec PyProof.Rows L2 ItX
/-! ### results -/
@[simp] theorem bind_ok {α β : Type} {a : α} {st : Sto} {f : α → M β} : (Res.ok a st).bind f = f a st := rfl
@[simp] theorem bind_exc {α β : Type} {c : Nat} {fs : Fs} {st : Sto} {f : α → M β} : (Res.exc c fs st : Res α).bind f = .exc c fs st := rfl
@[simp] theorem go_ok {α : Type} {a : α} {st : Sto} {env : En} {f : α → Sto → SRes} : (Res.ok a st).go env f = f a st := rfl
@[simp] theorem go_exc {α : Type} {c : Nat} {fs : Fs} {st : Sto} {env : En} {f : α → Sto → SRes} : (Res.exc c fs st : Res α).go env f = .exc env c fs st := rfl
/-! ### expressions -/
section
variable {env : En} {st : Sto} {i : Nat} {a b c : EM} {t ta tb : TM} {aa ab : AM} {f : D → D → M D} {g : D → M D} {d x y : D} {tr : D → M Bool}
def slotR (o : Option Slot) (st : Sto) : Res D := match o with
  | some (.sh d) => .ok d st
  | _ => .bad
@[simp] theorem slot_sh : slotR (some (.sh d)) st = .ok d st := rfl
@[simp] theorem eVar_app : eVar i env st = slotR env[i]? st := by
  unfold eVar slotR
  rfl
@[simp] theorem eC_app : eC d env st = .ok d st := rfl
def kOp (f : D → D → M D) (b : EM) (env : En) (x : D) : M D := fun s => (b env s).bind (f x)
@[simp] theorem kOp_app : kOp f b env x st = (b env st).bind (f x) := rfl
@[simp] theorem eOp_app : eOp f a b env st = (a env st).bind (kOp f b env) := rfl
@[simp] theorem eUn_app : eUn g a env st = (a env st).bind g := rfl
@[simp] theorem tVal_app : tVal tr a env st = (a env st).bind tr := rfl
def kNot (b : Bool) : M Bool := fun s => .ok (!b) s
@[simp] theorem kNot_app {b : Bool} : kNot b st = .ok (!b) st := rfl
@[simp] theorem tNotM_app : tNotM t env st = (t env st).bind kNot := rfl
def kAndT (tb : TM) (env : En) (x : Bool) : M Bool := fun s => if x = true then tb env s else .ok false s
@[simp] theorem kAndT_t : kAndT tb env true st = tb env st := rfl
@[simp] theorem kAndT_f : kAndT tb env false st = .ok false st := rfl
@[simp] theorem tAndM_app : tAndM ta tb env st = (ta env st).bind (kAndT tb env) := rfl
def kOrT (tb : TM) (env : En) (x : Bool) : M Bool := fun s => if x = true then .ok true s else tb env s
@[simp] theorem kOrT_t : kOrT tb env true st = .ok true st := rfl
@[simp] theorem kOrT_f : kOrT tb env false st = tb env st := rfl
@[simp] theorem tOrM_app : tOrM ta tb env st = (ta env st).bind (kOrT tb env) := rfl
@[simp] theorem tYesM_app : tYesM env st = .ok true st := rfl
def kAnd2 (b : EM) (env : En) (x : D) (k : Bool) : M D := fun s => if k = true then b env s else .ok x s
@[simp] theorem kAnd2_t : kAnd2 b env x true st = b env st := rfl
@[simp] theorem kAnd2_f : kAnd2 b env x false st = .ok x st := rfl
def kAnd (tr : D → M Bool) (b : EM) (env : En) (x : D) : M D := fun s => (tr x s).bind (kAnd2 b env x)
@[simp] theorem kAnd_app : kAnd tr b env x st = (tr x st).bind (kAnd2 b env x) := rfl
@[simp] theorem eAnd_app : eAnd tr a b env st = (a env st).bind (kAnd tr b env) := rfl
def kOr2 (b : EM) (env : En) (x : D) (k : Bool) : M D := fun s => if k = true then .ok x s else b env s
@[simp] theorem kOr2_t : kOr2 b env x true st = .ok x st := rfl
@[simp] theorem kOr2_f : kOr2 b env x false st = b env st := rfl
def kOr (tr : D → M Bool) (b : EM) (env : En) (x : D) : M D := fun s => (tr x s).bind (kOr2 b env x)
@[simp] theorem kOr_app : kOr tr b env x st = (tr x st).bind (kOr2 b env x) := rfl
@[simp] theorem eOr_app : eOr tr a b env st = (a env st).bind (kOr tr b env) := rfl
def kNotE2 (k : Bool) : M D := fun s => .ok (.bl (!k)) s
@[simp] theorem kNotE2_app {k : Bool} : kNotE2 k st = .ok (.bl (!k)) st := rfl
def kNotE (tr : D → M Bool) (x : D) : M D := fun s => (tr x s).bind kNotE2
@[simp] theorem kNotE_app : kNotE tr x st = (tr x st).bind kNotE2 := rfl
@[simp] theorem eNot_app : eNot tr a env st = (a env st).bind (kNotE tr) := rfl
def kIf (a b : EM) (env : En) (k : Bool) : M D := fun s => if k = true then a env s else b env s
@[simp] theorem kIf_t : kIf a b env true st = a env st := rfl
@[simp] theorem kIf_f : kIf a b env false st = b env st := rfl
@[simp] theorem eIf_app : eIf t a b env st = (t env st).bind (kIf a b env) := rfl
@[simp] theorem aNil_app : aNil env st = .ok [] st := rfl
def kCons2 (x : D) (xs : List D) : M (List D) := fun s => .ok (x :: xs) s
@[simp] theorem kCons2_app {xs : List D} : kCons2 x xs st = .ok (x :: xs) st := rfl
def kCons (aa : AM) (env : En) (x : D) : M (List D) := fun s => (aa env s).bind (kCons2 x)
@[simp] theorem kCons_app : kCons aa env x st = (aa env st).bind (kCons2 x) := rfl
@[simp] theorem aCons_app : aCons a aa env st = (a env st).bind (kCons aa env) := rfl
def kTup (xs : List D) : M D := fun s => if xs.length ≤ LIM then .ok (.tup xs) s else .bad
@[simp] theorem kTup_app {xs : List D} : kTup xs st = if xs.length ≤ LIM then .ok (.tup xs) st else .bad := rfl
@[simp] theorem eTup_app : eTup aa env st = (aa env st).bind kTup := rfl
def kLst (xs : List D) : M (List D) := fun s => if xs.length ≤ LIM then .ok xs s else .bad
@[simp] theorem kLst_app {xs : List D} : kLst xs st = if xs.length ≤ LIM then .ok xs st else .bad := rfl
@[simp] theorem lLst_app : lLst aa env st = (aa env st).bind kLst := rfl
def kL (xs : List D) : M D := fun s => .ok (.lst xs) s
@[simp] theorem kL_app {xs : List D} : kL xs st = .ok (.lst xs) st := rfl
@[simp] theorem eL_app : eL aa env st = (aa env st).bind kL := rfl
def kCel (ds : List D) : M D := fun s => .ok (.cell s.length) (s ++ [.lst ds])
@[simp] theorem kCel_app {ds : List D} : kCel ds st = .ok (.cell st.length) (st ++ [.lst ds]) := rfl
@[simp] theorem eCel_app : eCel aa env st = (aa env st).bind kCel := rfl
@[simp] theorem eCall_app {g : List D → M D} : eCall g aa env st = (aa env st).bind g := rfl
@[simp] theorem mCall_app {n : Nat} {dds ds : List D} {m : List D → M D} : mCall n dds m ds st = if ds.length + dds.length = n then m (ds ++ dds) st else .bad := rfl
def kNew (c : Nat) (fs : Fs) : M D := fun s => .ok (.ins c fs) s
@[simp] theorem kNew_app {c : Nat} {fs : Fs} : kNew c fs st = .ok (.ins c fs) st := rfl
@[simp] theorem mNew_app {c n : Nat} {dds ds : List D} {m : List D → M Fs} : mNew c n dds m ds st = if ds.length + dds.length = n then (m (ds ++ dds) st).bind (kNew c) else .bad := rfl
@[simp] theorem tag_beq {a b : Tag} : (a == b) = decide (a = b) := rfl
def isiR (f : Tag → Option Bool) (o : Option Tag) (s : Sto) : Res D := match o with
  | some t => (match f t with
    | some b => .ok (.bl b) s
    | none => .bad)
  | none => .bad
def kIsi (f : Tag → Option Bool) (x : D) : M D := fun s => isiR f (tagOf x s) s
@[simp] theorem kIsi_app {f : Tag → Option Bool} : kIsi f x st = isiR f (tagOf x st) st := rfl
@[simp] theorem eIsi_app {f : Tag → Option Bool} : eIsi f a env st = (a env st).bind (kIsi f) := rfl
def isiB (o : Option Bool) (s : Sto) : Res D := match o with
  | some b => .ok (.bl b) s
  | none => .bad
@[simp] theorem isiR_some {f : Tag → Option Bool} {t : Tag} : isiR f (some t) st = isiB (f t) st := rfl
@[simp] theorem isiB_some {b : Bool} : isiB (some b) st = .ok (.bl b) st := rfl
def fldR (o : Option D) (s : Sto) : Res D := match o with
  | some d => .ok d s
  | none => .bad
@[simp] theorem fldR_some : fldR (some d) st = .ok d st := rfl
def fldC (cs : List Nat) (f : Str) (o : Option (Nat × Fs)) (s : Sto) : Res D := match o with
  | some (c, fs) => if cs.contains c = true then fldR (fs.lookup f) s else .bad
  | none => .bad
@[simp] theorem fldC_some {cs : List Nat} {f : Str} {c : Nat} {fs : Fs} : fldC cs f (some (c, fs)) st = if cs.contains c = true then fldR (fs.lookup f) st else .bad := rfl
def kFld (cs : List Nat) (f : Str) (x : D) : M D := fun s => fldC cs f (clsOf x s) s
@[simp] theorem kFld_app {cs : List Nat} {f : Str} : kFld cs f x st = fldC cs f (clsOf x st) st := rfl
@[simp] theorem eFld_app {cs : List Nat} {f : Str} : eFld cs f a env st = (a env st).bind (kFld cs f) := rfl
@[simp] theorem clsOf_ins {c : Nat} {fs : Fs} : clsOf (.ins c fs) st = some (c, fs) := rfl
@[simp] theorem tagOf_ins {c : Nat} {fs : Fs} : tagOf (.ins c fs) st = some (.own c) := rfl
@[simp] theorem tagOf_str {z : Str} : tagOf (.str z) st = some .str := rfl
@[simp] theorem tagOf_int {z : Int} : tagOf (.int z) st = some .int := rfl
@[simp] theorem tagOf_bl {z : Bool} : tagOf (.bl z) st = some .bl := rfl
@[simp] theorem tagOf_lst {z : List D} : tagOf (.lst z) st = some .lst := rfl
@[simp] theorem tagOf_tup {z : List D} : tagOf (.tup z) st = some .tup := rfl
@[simp] theorem tagOf_non : tagOf .non st = some .non := rfl
@[simp] theorem seqOf_lst {z : List D} : seqOf (.lst z) st = some z := rfl
@[simp] theorem seqOf_fix {z : List D} : seqOf (.fix z) st = some z := rfl
def kBm (T : String) (f : D → List D → M D) (aa : AM) (env : En) (x : D) : M D := fun s => if tyD T x s = true then (aa env s).bind (f x) else .bad
@[simp] theorem kBm_app {T : String} {f : D → List D → M D} : kBm T f aa env x st = if tyD T x st = true then (aa env st).bind (f x) else .bad := rfl
@[simp] theorem eBm_app {T : String} {f : D → List D → M D} : eBm T f a aa env st = (a env st).bind (kBm T f aa env) := rfl
@[simp] theorem tyD_str {T : String} {z : Str} : tyD T (.str z) st = (T == "str") := rfl
def kMe (g : List D → M D) (x : D) (ds : List D) : M D := fun s => g (x :: ds) s
@[simp] theorem kMe_app {g : List D → M D} {ds : List D} : kMe g x ds st = g (x :: ds) st := rfl
def methR (tab : List (Nat × (List D → M D))) (name : Str) (x : D) (aa : AM) (env : En) (o : Option (Nat × Fs)) (s1 : Sto) : Res D := match o with
  | some (c, fs) => (match fs.lookup name, tab.lookup c with
    | none, some g => (aa env s1).bind (kMe g x)
    | _, _ => .bad)
  | none => .bad
def kMeth (tab : List (Nat × (List D → M D))) (name : Str) (aa : AM) (env : En) (x : D) : M D := fun s => methR tab name x aa env (clsOf x s) s
@[simp] theorem kMeth_app {tab : List (Nat × (List D → M D))} {name : Str} : kMeth tab name aa env x st = methR tab name x aa env (clsOf x st) st := rfl
@[simp] theorem eMeth_app {tab : List (Nat × (List D → M D))} {name : Str} : eMeth tab name a aa env st = (a env st).bind (kMeth tab name aa env) := rfl
theorem methR_some {tab : List (Nat × (List D → M D))} {name : Str} {c : Nat} {fs : Fs} {g : List D → M D} (h1 : fs.lookup name = none) (h2 : tab.lookup c = some g) : methR tab name x aa env (some (c, fs)) st = (aa env st).bind (kMe g x) := by
  unfold methR
  simp only [h1, h2]
def clsR (tab : Tab) (aa : AM) (env : En) (o : Option Slot) (st : Sto) : Res D := match o with
  | some (.sh (.cls c)) => (match tab.lookup c with
    | some g => (aa env st).bind g
    | none => .bad)
  | _ => .bad
@[simp] theorem eCls_app {tab : Tab} : eCls tab i aa env st = clsR tab aa env env[i]? st := by
  unfold eCls clsR
  rfl
theorem clsR_some {tab : Tab} {c : Nat} {g : List D → M D} (h : tab.lookup c = some g) : clsR tab aa env (some (.sh (.cls c))) st = (aa env st).bind g := by
  unfold clsR
  simp only [h]
def kCm (c n : Nat) (g : List D → M D) (ds : List D) : M D := fun s => if ds.length + 1 = n then g (.cls c :: ds) s else .bad
@[simp] theorem kCm_app {c n : Nat} {g : List D → M D} {ds : List D} : kCm c n g ds st = if ds.length + 1 = n then g (.cls c :: ds) st else .bad := rfl
@[simp] theorem eCm_app {c n : Nat} {g : List D → M D} : eCm c n g aa env st = (aa env st).bind (kCm c n g) := rfl
def kSl2 (f : D → Option Int → Option Int → M D) (hi : PM) (env : En) (x : D) (l : Option Int) : M D := fun s => (hi env s).bind (f x l)
@[simp] theorem kSl2_app {f : D → Option Int → Option Int → M D} {hi : PM} {l : Option Int} : kSl2 f hi env x l st = (hi env st).bind (f x l) := rfl
def kSl (f : D → Option Int → Option Int → M D) (lo hi : PM) (env : En) (x : D) : M D := fun s => (lo env s).bind (kSl2 f hi env x)
@[simp] theorem kSl_app {f : D → Option Int → Option Int → M D} {lo hi : PM} : kSl f lo hi env x st = (lo env st).bind (kSl2 f hi env x) := rfl
@[simp] theorem eSl_app {f : D → Option Int → Option Int → M D} {lo hi : PM} : eSl f a lo hi env st = (a env st).bind (kSl f lo hi env) := rfl
@[simp] theorem pNone_app : pNone env st = .ok none st := rfl
def pR (x : D) (s : Sto) : Res (Option Int) := match x with
  | .int i => .ok (some i) s
  | _ => .bad
@[simp] theorem pR_int {i : Int} : pR (.int i) st = .ok (some i) st := rfl
@[simp] theorem pSome_app : pSome a env st = (a env st).bind pR := rfl
def wR (o : Option (List D)) (s : Sto) : Res (List D) := match o with
  | some ds => .ok ds s
  | none => .bad
@[simp] theorem wR_some {ds : List D} : wR (some ds) st = .ok ds st := rfl
def kVal (x : D) : M (List D) := fun s => wR (walkD x) s
@[simp] theorem kVal_app : kVal x st = wR (walkD x) st := rfl
@[simp] theorem iVal_app : iVal a env st = (a env st).bind kVal := rfl
@[simp] theorem walkD_lst {z : List D} : walkD (.lst z) = some z := rfl
@[simp] theorem walkD_fix {z : List D} : walkD (.fix z) = some z := rfl
@[simp] theorem walkD_tup {z : List D} : walkD (.tup z) = some z := rfl
@[simp] theorem walkD_str {z : Str} : walkD (.str z) = some (signs z) := rfl
def kOwnI (tab : List (Nat × Str)) (x : D) : M (List D) := fun s => match x with
  | .ins c fs => (match tab.lookup c with
    | some f => (match fs.lookup f with
      | some d => (match d with
        | .lst ds => .ok ds s
        | .fix ds => .ok ds s
        | .str z => .ok (signs z) s
        | _ => .bad)
      | none => .bad)
    | none => .bad)
  | x => wR (walkD x) s
@[simp] theorem iOwn_app {tab : List (Nat × Str)} : iOwn tab a env st = (a env st).bind (kOwnI tab) := rfl
@[simp] theorem kOwnI_lst {tab : List (Nat × Str)} {z : List D} : kOwnI tab (.lst z) st = .ok z st := rfl
@[simp] theorem kOwnI_fix {tab : List (Nat × Str)} {z : List D} : kOwnI tab (.fix z) st = .ok z st := rfl
@[simp] theorem kOwnI_tup {tab : List (Nat × Str)} {z : List D} : kOwnI tab (.tup z) st = .ok z st := rfl
@[simp] theorem kOwnI_str {tab : List (Nat × Str)} {z : Str} : kOwnI tab (.str z) st = .ok (signs z) st := rfl
noncomputable def kR1 (ds : List D) : M (List D) := fun s => match ds with
  | [.int n] => cif (-(2 ^ 62) ≤ n ∧ n < 2 ^ 62) (.ok (rngL 0 n.toNat) s) .bad
  | _ => .bad
theorem kR1_app {n : Int} : kR1 [.int n] st = cif (-(2 ^ 62) ≤ n ∧ n < 2 ^ 62) (.ok (rngL 0 n.toNat) st) .bad := rfl
theorem kR1_int {k : Int} (h1 : 0 ≤ k) (h2 : k ≤ 1000000) : kR1 [.int k] st = .ok (rngL 0 k.toNat) st := by
  rw [kR1_app, cif_pos (by omega)]
theorem kR1_nat {k : Nat} (h : k ≤ 1000000) : kR1 [.int k] st = .ok (rngL 0 k) st := by
  rw [kR1_int (by omega) (by omega), Int.toNat_natCast]
@[simp] theorem kR1_1 : kR1 [.int 1] st = .ok (rngL 0 1) st := kR1_nat (k := 1) (by decide)
@[simp] theorem kR1_2 : kR1 [.int 2] st = .ok (rngL 0 2) st := kR1_nat (k := 2) (by decide)
@[simp] theorem kR1_3 : kR1 [.int 3] st = .ok (rngL 0 3) st := kR1_nat (k := 3) (by decide)
@[simp] theorem kR1_4 : kR1 [.int 4] st = .ok (rngL 0 4) st := kR1_nat (k := 4) (by decide)
@[simp] theorem kR1_5 : kR1 [.int 5] st = .ok (rngL 0 5) st := kR1_nat (k := 5) (by decide)
@[simp] theorem kR1_6 : kR1 [.int 6] st = .ok (rngL 0 6) st := kR1_nat (k := 6) (by decide)
@[simp] theorem kR1_7 : kR1 [.int 7] st = .ok (rngL 0 7) st := kR1_nat (k := 7) (by decide)
@[simp] theorem kR1_8 : kR1 [.int 8] st = .ok (rngL 0 8) st := kR1_nat (k := 8) (by decide)
@[simp] theorem kR1_9 : kR1 [.int 9] st = .ok (rngL 0 9) st := kR1_nat (k := 9) (by decide)
@[simp] theorem kR1_10 : kR1 [.int 10] st = .ok (rngL 0 10) st := kR1_nat (k := 10) (by decide)
@[simp] theorem kR1_11 : kR1 [.int 11] st = .ok (rngL 0 11) st := kR1_nat (k := 11) (by decide)
@[simp] theorem kR1_12 : kR1 [.int 12] st = .ok (rngL 0 12) st := kR1_nat (k := 12) (by decide)
@[simp] theorem kR1_20 : kR1 [.int 20] st = .ok (rngL 0 20) st := kR1_nat (k := 20) (by decide)
@[simp] theorem kR1_30 : kR1 [.int 30] st = .ok (rngL 0 30) st := kR1_nat (k := 30) (by decide)
@[simp] theorem kR1_40 : kR1 [.int 40] st = .ok (rngL 0 40) st := kR1_nat (k := 40) (by decide)
@[simp] theorem kR1_60 : kR1 [.int 60] st = .ok (rngL 0 60) st := kR1_nat (k := 60) (by decide)
@[simp] theorem iR1_app : iR1 aa env st = (aa env st).bind kR1 := rfl
def kComp (tg : TgM) (tst : TM) (elt : EM) (env : En) (ds : List D) : M (List D) := fun s => compLoop tg tst elt env ds [] s
@[simp] theorem lComp_app {tg : TgM} {vs : List Nat} : lComp aa tg t a vs env st = (aa env st).bind (kComp tg t a (wipeE env vs)) := rfl
/-! ### statements -/
def SRes.next (r : SRes) (b : SM) : SRes := match r with
  | .nx env st => b env st
  | r => r
variable {ma mb : SM} {env2 : En}
@[simp] theorem next_nx : (SRes.nx env st).next ma = ma env st := rfl
@[simp] theorem next_rt : (SRes.rt d st).next ma = .rt d st := rfl
@[simp] theorem next_exc {c : Nat} {fs : Fs} : (SRes.exc env c fs st).next ma = .exc env c fs st := rfl
@[simp] theorem next_bk : (SRes.bk env st).next ma = .bk env st := rfl
@[simp] theorem next_ct : (SRes.ct env st).next ma = .ct env st := rfl
@[simp] theorem sSeq_app : sSeq ma mb env st = (ma env st).next mb := by
  unfold sSeq SRes.next
  cases ma env st <;> rfl
@[simp] theorem sNil_app : sNil env st = .nx env st := rfl
def kExpr (env : En) (_ : D) (s : Sto) : SRes := .nx env s
@[simp] theorem kExpr_app : kExpr env d st = .nx env st := rfl
@[simp] theorem sExpr_app : sExpr a env st = (a env st).go env (kExpr env) := rfl
@[simp] theorem sRet_app : sRet a env st = (a env st).go env SRes.rt := rfl
@[simp] theorem sRetN_app : sRetN env st = .rt .non st := rfl
def kSet (i : Nat) (env : En) (d : D) (s : Sto) : SRes := .nx (env.set i (.sh d)) s
@[simp] theorem kSet_app : kSet i env d st = .nx (env.set i (.sh d)) st := rfl
@[simp] theorem sSet_app : sSet i a env st = (a env st).go env (kSet i env) := rfl
def kSIf (ma mb : SM) (env : En) (k : Bool) (s : Sto) : SRes := if k = true then ma env s else mb env s
@[simp] theorem kSIf_t : kSIf ma mb env true st = ma env st := rfl
@[simp] theorem kSIf_f : kSIf ma mb env false st = mb env st := rfl
@[simp] theorem sIf_app : sIf t ma mb env st = (t env st).go env (kSIf ma mb env) := rfl
def kRaise (c n : Nat) (fs : List Str) (env : En) (ds : List D) (s : Sto) : SRes := if ds.length = n then .exc env c (xfs fs ds) s else .bad
@[simp] theorem kRaise_app {c n : Nat} {fs : List Str} {ds : List D} : kRaise c n fs env ds st = if ds.length = n then .exc env c (xfs fs ds) st else .bad := rfl
@[simp] theorem sRaise_app {c n : Nat} {fs : List Str} : sRaise c n fs aa env st = (aa env st).go env (kRaise c n fs env) := rfl
def kFor (tg : TgM) (ma : SM) (env : En) (ds : List D) (s : Sto) : SRes := forLoop tg ma ds env s
@[simp] theorem kFor_app {tg : TgM} {ds : List D} : kFor tg ma env ds st = forLoop tg ma ds env st := rfl
@[simp] theorem sFor_app {tg : TgM} : sFor aa tg ma env st = (aa env st).go env (kFor tg ma env) := rfl
def SRes.loop (r : SRes) (k : SM) : SRes := match r with
  | .nx env2 st2 => k env2 st2
  | .ct env2 st2 => k env2 st2
  | .bk env2 st2 => .nx env2 st2
  | r => r
@[simp] theorem loop_nx {k : SM} : (SRes.nx env st).loop k = k env st := rfl
@[simp] theorem loop_ct {k : SM} : (SRes.ct env st).loop k = k env st := rfl
@[simp] theorem loop_bk {k : SM} : (SRes.bk env st).loop k = .nx env st := rfl
@[simp] theorem loop_rt {k : SM} : (SRes.rt d st).loop k = .rt d st := rfl
@[simp] theorem loop_exc {k : SM} {c : Nat} {fs : Fs} : (SRes.exc env c fs st).loop k = .exc env c fs st := rfl
@[simp] theorem forLoop_nil {tg : TgM} : forLoop tg ma [] env st = .nx env st := rfl
def tgR (o : Option En) (ma k : SM) (st : Sto) : SRes := match o with
  | none => .bad
  | some e => (ma e st).loop k
@[simp] theorem tgR_some {k : SM} : tgR (some env) ma k st = (ma env st).loop k := rfl
theorem forLoop_cons {tg : TgM} {ds : List D} : forLoop tg ma (d :: ds) env st = tgR (tg d env) ma (forLoop tg ma ds) st := by
  rw [forLoop]
  unfold tgR SRes.loop
  cases tg d env with
  | none => rfl
  | some e => first | (dsimp only; done) | (dsimp only; cases ma e st <;> rfl)
@[simp] theorem gN_app : gN i d env = some (env.set i (.sh d)) := rfl
@[simp] theorem gT_tup {ts : List TgM} {ds : List D} : gT ts (.tup ds) env = gTs ts ds env := rfl
@[simp] theorem gTs_nil : gTs [] [] env = some env := rfl
@[simp] theorem gTs_cons {t : TgM} {ts : List TgM} {ds : List D} : gTs (t :: ts) (d :: ds) env = (t d env).bind (gTs ts ds) := rfl
/-! ### bodies -/
def SRes.out (r : SRes) : Res D := match r with
  | .nx _ st' => .ok .non st'
  | .rt d st' => .ok d st'
  | .exc _ c fs st' => .exc c fs st'
  | _ => .bad
@[simp] theorem out_nx : (SRes.nx env st).out = .ok .non st := rfl
@[simp] theorem out_rt : (SRes.rt d st).out = .ok d st := rfl
@[simp] theorem out_exc {c : Nat} {fs : Fs} : (SRes.exc env c fs st).out = .exc c fs st := rfl
theorem runBody_app {n : Nat} {ds : List D} : runBody n ma ds st = (ma (env0 n ds) st).out := rfl
def initR (c : Nat) (r : SRes) : Res Fs := match r with
  | .nx env st' => (match (env[0]? : Option Slot) with
    | some (.oI c' fs) => if c' = c then .ok fs st' else .bad
    | _ => .bad)
  | .exc _ c fs st' => .exc c fs st'
  | _ => .bad
@[simp] theorem initR_exc {c c2 : Nat} {fs : Fs} : initR c (.exc env c2 fs st) = .exc c2 fs st := rfl
@[simp] theorem initR_nx {c : Nat} {fs : Fs} {e : En} : initR c (.nx (.oI c fs :: e) st) = .ok fs st := by
  show (if c = c then Res.ok fs st else Res.bad) = _
  rw [if_pos rfl]
theorem runInit_app {c n : Nat} {ds : List D} : runInit c n ma ds st = initR c (ma (envI c n ds) st) := rfl
def sfR (cs : List Nat) (i : Nat) (f : Str) (env : En) (d : D) (o : Option Slot) (s : Sto) : SRes := match o with
  | some (.oI c fs) => if cs.contains c = true ∧ fs.length < 1000 then .nx (env.set i (.oI c (put f d fs))) s else .bad
  | _ => .bad
def kFldO (cs : List Nat) (i : Nat) (f : Str) (env : En) (d : D) (s : Sto) : SRes := sfR cs i f env d env[i]? s
@[simp] theorem kFldO_app {cs : List Nat} {f : Str} : kFldO cs i f env d st = sfR cs i f env d env[i]? st := rfl
@[simp] theorem sFldO_app {cs : List Nat} {f : Str} : sFldO cs i f a env st = (a env st).go env (kFldO cs i f env) := by
  unfold sFldO kFldO sfR
  rfl
@[simp] theorem sfR_some {cs : List Nat} {f : Str} {c : Nat} {fs : Fs} : sfR cs i f env d (some (.oI c fs)) st = if cs.contains c = true ∧ fs.length < 1000 then .nx (env.set i (.oI c (put f d fs))) st else .bad := rfl
def tryR (sub : Nat → Option Bool) (i : Option Nat) (ms : SM) (r : SRes) : SRes := match r with
  | .exc env' c fs st' => (match sub c with
    | some true => suiteEnd i (ms (match i with | some i => env'.set i (.ex c fs) | none => env') st')
    | some false => .exc env' c fs st'
    | none => .bad)
  | r => r
@[simp] theorem sTry_app {sub : Nat → Option Bool} {j : Option Nat} : sTry sub j ma mb env st = tryR sub j mb (ma env st) := rfl
@[simp] theorem tryR_nx {sub : Nat → Option Bool} {j : Option Nat} : tryR sub j mb (.nx env st) = .nx env st := rfl
@[simp] theorem tryR_rt {sub : Nat → Option Bool} {j : Option Nat} : tryR sub j mb (.rt d st) = .rt d st := rfl
theorem tryR_exc {sub : Nat → Option Bool} {c : Nat} {fs : Fs} (h : sub c = some true) : tryR sub (some i) mb (.exc env c fs st) = suiteEnd (some i) (mb (env.set i (.ex c fs)) st) := by
  unfold tryR
  simp only [h]
@[simp] theorem suiteEnd_rt {j : Option Nat} : suiteEnd j (.rt d st) = .rt d st := rfl
def xfR (cs : List Nat) (f : Str) (o : Option Slot) (st : Sto) : Res D := match o with
  | some (.ex c fs) => if cs.contains c = true then fldR (fs.lookup f) st else .bad
  | _ => .bad
@[simp] theorem eXf_app {cs : List Nat} {f : Str} : eXf cs i f env st = xfR cs f env[i]? st := by
  unfold eXf xfR
  cases env[i]? with
  | none => rfl
  | some s => cases s <;> rfl
@[simp] theorem xfR_ex {cs : List Nat} {f : Str} {c : Nat} {fs : Fs} : xfR cs f (some (.ex c fs)) st = if cs.contains c = true then fldR (fs.lookup f) st else .bad := rfl
def isxR (sub : Nat → Option Bool) (o : Option Slot) (st : Sto) : Res D := match o with
  | some (.ex c _) => isiB (sub c) st
  | _ => .bad
@[simp] theorem eIsX_app {sub : Nat → Option Bool} : eIsX sub i env st = isxR sub env[i]? st := by
  unfold eIsX isxR
  cases env[i]? with
  | none => rfl
  | some s => cases s <;> rfl
@[simp] theorem isxR_ex {sub : Nat → Option Bool} {c : Nat} {fs : Fs} : isxR sub (some (.ex c fs)) st = isiB (sub c) st := rfl
/-! ### operations on known shapes -/
variable {i1 j1 : Int} {z1 z2 : Str} {tab : Tab} {nf : Nat → Tag → Bool} {b1 b2 : Bool}
@[simp] theorem eqD_int : eqD tab nf (.int i1) (.int j1) st = .ok (.bl (decide (i1 = j1))) st := rfl
@[simp] theorem eqD_str : eqD tab nf (.str z1) (.str z2) st = .ok (.bl (decide (z1 = z2))) st := rfl
@[simp] theorem eqD_bl : eqD tab nf (.bl b1) (.bl b2) st = .ok (.bl (decide (b1 = b2))) st := rfl
@[simp] theorem eqS_int : eqS (.int i1) (.int j1) st = .ok (.bl (decide (i1 = j1))) st := rfl
@[simp] theorem eqS_str : eqS (.str z1) (.str z2) st = .ok (.bl (decide (z1 = z2))) st := rfl
@[simp] theorem neD_int : neD (.int i1) (.int j1) st = .ok (.bl (!decide (i1 = j1))) st := rfl
@[simp] theorem neD_str : neD (.str z1) (.str z2) st = .ok (.bl (!decide (z1 = z2))) st := rfl
@[simp] theorem neD_bl : neD (.bl b1) (.bl b2) st = .ok (.bl (!decide (b1 = b2))) st := rfl
@[simp] theorem truD_bl : truD tab (.bl b1) st = .ok b1 st := rfl
@[simp] theorem truS_bl : truS (.bl b1) st = .ok b1 st := rfl
@[simp] theorem truD_int : truD tab (.int i1) st = .ok (i1 != 0) st := rfl
@[simp] theorem truD_str : truD tab (.str z1) st = if z1.length ≤ LIM then .ok ((z1.length : Int) != 0) st else .bad := rfl
@[simp] theorem lenD_str : lenD tab [.str z1] st = if z1.length ≤ LIM then .ok (.int z1.length) st else .bad := rfl
@[simp] theorem inD_str {neg : Bool} : inD tab tr neg (.str z1) (.str z2) st = .ok (.bl (if neg then !subS z1 z2 else subS z1 z2)) st := rfl
@[simp] theorem opAdd_int : opAdd tab (.int i1) (.int j1) st = .ok (.int (i1 + j1)) st := rfl
@[simp] theorem opAdd_str : opAdd tab (.str z1) (.str z2) st = if z1.length + z2.length ≤ LIM then .ok (.str (z1 ++ z2)) st else .bad := rfl
@[simp] theorem opAdd_lst {p q : List D} : opAdd tab (.lst p) (.lst q) st = if p.length + q.length ≤ LIM then .ok (.lst (p ++ q)) st else .bad := rfl
@[simp] theorem opSub_int : opSub tab (.int i1) (.int j1) st = .ok (.int (i1 - j1)) st := rfl
@[simp] theorem opMul_int : opMul tab (.int i1) (.int j1) st = if (-(2 ^ 64) < i1 ∧ i1 < 2 ^ 64) ∨ (-(2 ^ 64) < j1 ∧ j1 < 2 ^ 64) then .ok (.int (i1 * j1)) st else .bad := rfl
@[simp] theorem opMul_str : opMul tab (.str z1) (.int j1) st = if 0 ≤ j1 ∧ j1 ≤ 1 then .ok (.str (if j1 = 1 then z1 else ⟨#[]⟩)) st else .bad := rfl
@[simp] theorem opMod_int : opMod (.int i1) (.int j1) st = if j1 ≠ 0 then .ok (.int (i1.fmod j1)) st else .bad := rfl
@[simp] theorem opFdv_int : opFdv (.int i1) (.int j1) st = if j1 ≠ 0 ∧ j1.natAbs < 1073741824 then .ok (.int (i1.fdiv j1)) st else .bad := rfl
@[simp] theorem opPow_int : opPow (.int i1) (.int j1) st = if 0 ≤ j1 ∧ j1 ≤ 1000000 ∧ i1.natAbs < 2 ^ 64 then .ok (.int (i1 ^ j1.toNat)) st else .bad := rfl
@[simp] theorem intD_int : intD [.int i1] st = .ok (.int i1) st := rfl
@[simp] theorem intD_bl : intD [.bl b1] st = .ok (.int (if b1 then 1 else 0)) st := rfl
@[simp] theorem absD_int : absD [.int i1] st = .ok (.int (if i1 < 0 then -i1 else i1)) st := rfl
@[simp] theorem cmpI_int {f : Int → Int → Bool} : cmpI f (.int i1) (.int j1) st = .ok (.bl (f i1 j1)) st := rfl
@[simp] theorem isD_bl {neg : Bool} : isD neg (.bl b1) (.bl b2) st = .ok (.bl (if neg then !decide (b1 = b2) else decide (b1 = b2))) st := rfl
@[simp] theorem isD_intbl {neg : Bool} : isD neg (.int i1) (.bl b2) st = .ok (.bl neg) st := rfl
end
/-! ### lists compared -/
section
variable {tab : Tab} {nf : Nat → Tag → Bool} {st : Sto} {n : Nat} {ds es : List D} {a b : PyData}
theorem pdR {x y : D} (h1 : pdT x st = some a) (h2 : pdT y st = some b) (s1 : SeqAt.shaped a = true) (s2 : SeqAt.shaped b = true) (r : Res D) : (match pdT x st, pdT y st with
    | some a, some b => if SeqAt.shaped a = true ∧ SeqAt.shaped b = true then Res.ok (D.bl (PyData.eqv a b)) st else .bad
    | _, _ => r) = .ok (.bl (PyData.eqv a b)) st := by
  rw [h1, h2]
  dsimp only
  rw [if_pos ⟨s1, s2⟩]
theorem pdT_lst {as : List PyData} (h : D.pds ds = some as) : pdT (.lst ds) st = some (.list as) := by
  show (D.pds ds).map PyData.list = _
  rw [h]; rfl
theorem eqD_cell (h1 : pdT (.cell n) st = some a) (h2 : D.pds es = some bs) (s1 : SeqAt.shaped a = true) (s2 : SeqAt.shaped (.list bs) = true) : eqD tab nf (.cell n) (.lst es) st = .ok (.bl (PyData.eqv a (.list bs))) st :=
  pdR h1 (pdT_lst h2) s1 s2 _
theorem eqD_lst (h1 : D.pds ds = some as) (h2 : D.pds es = some bs) (s1 : SeqAt.shaped (.list as) = true) (s2 : SeqAt.shaped (.list bs) = true) : eqD tab nf (.lst ds) (.lst es) st = .ok (.bl (PyData.eqv (.list as) (.list bs))) st :=
  pdR (pdT_lst h1) (pdT_lst h2) s1 s2 _
theorem neD_lst (h1 : D.pds ds = some as) (h2 : D.pds es = some bs) (s1 : SeqAt.shaped (.list as) = true) (s2 : SeqAt.shaped (.list bs) = true) : neD (.lst ds) (.lst es) st = .ok (.bl (!PyData.eqv (.list as) (.list bs))) st := by
  have e1 : pdT (.lst ds) st = some (.list as) := pdT_lst h1
  have e2 : pdT (.lst es) st = some (.list bs) := pdT_lst h2
  show (match pdT (.lst ds) st, pdT (.lst es) st with
    | some a, some b => if SeqAt.shaped a = true ∧ SeqAt.shaped b = true then Res.ok (D.bl (!PyData.eqv a b)) st else .bad
    | _, _ => .bad) = _
  rw [e1, e2]
  dsimp only
  rw [if_pos ⟨s1, s2⟩]
end
theorem pds_int : ∀ ns : List Int, D.pds (ns.map D.int) = some (ns.map PyData.int)
  | [] => rfl
  | n :: ns => by
    rw [List.map_cons, D.pds, pds_int ns]
    rfl
theorem pds_S : ∀ l : List Nat, D.pds (l.map fun c => D.str ⟨#[c]⟩) = some (l.map fun c => PyData.str ⟨#[c]⟩)
  | [] => rfl
  | n :: ns => by
    rw [List.map_cons, D.pds, pds_S ns]
    rfl
theorem lay_S : ∀ l : List Nat, (∀ c ∈ l, c < 0x110000) → PyData.canLayAll0 (l.map fun c => PyData.str ⟨#[c]⟩) = true
  | [], _ => rfl
  | c :: r, h => by
    have h1 := h c (List.mem_cons_self ..)
    have h2 := lay_S r fun d hd => h d (List.mem_cons_of_mem _ hd)
    rw [List.map_cons, PyData.canLayAll0, h2, Bool.and_true]
    show Array.all #[c] _ = true
    simpa using h1
theorem dep_S : ∀ l : List Nat, PyData.depthAll (l.map fun c => PyData.str ⟨#[c]⟩) = 0
  | [] => rfl
  | _ :: r => by simp [PyData.depthAll, PyData.depth, dep_S r]
theorem shaped_S (l : List Nat) (h : ∀ c ∈ l, c < 0x110000) : SeqAt.shaped (.list (l.map fun c => PyData.str ⟨#[c]⟩)) = true := by
  simp [SeqAt.shaped, PyData.canLay0, PyData.depth, lay_S l h, dep_S]
theorem eqv_S : ∀ l m : List Nat, PyData.eqvAll (l.map fun c => PyData.str ⟨#[c]⟩) (m.map fun c => PyData.str ⟨#[c]⟩) = decide (l = m)
  | [], [] => by simp [PyData.eqvAll]
  | [], _ :: _ => by simp [PyData.eqvAll]
  | _ :: _, [] => by simp [PyData.eqvAll]
  | a :: r, b :: t => by
    have e : PyData.eqv (.str ⟨#[a]⟩) (.str ⟨#[b]⟩) = decide (a = b) := by
      show ((⟨#[a]⟩ : Str) == ⟨#[b]⟩) = _
      by_cases h : a = b
      · simp [h]
      · simp [h]
    simp only [List.map_cons, PyData.eqvAll, eqv_S r t, e]
    by_cases h : a = b <;> by_cases h' : r = t <;> simp [h, h']
/-! ### comprehensions that keep the cells -/
theorem comp_keep {tg : TgM} {tst : TM} {elt : EM} {env : En} {st : Sto} (p : D → Bool) (g : D → D) : ∀ (ds acc : List D), acc.length + ds.length ≤ LIM →
    (∀ d ∈ ds, ∃ env1, tg d env = some env1 ∧ tst env1 st = .ok (p d) st ∧ (p d = true → elt env1 st = .ok (g d) st)) → compLoop tg tst elt env ds acc st = .ok (acc ++ (ds.filter p).map g) st
  | [], acc, _, _ => by simp [compLoop]
  | d :: ds, acc, hl, h => by
    obtain ⟨env1, h1, h2, h3⟩ := h d (List.mem_cons_self ..)
    rw [List.length_cons] at hl
    rw [compLoop, h1]
    dsimp only
    rw [h2]
    dsimp only
    cases e : p d with
    | true =>
      rw [if_pos rfl, h3 e]
      dsimp only
      rw [if_pos (by omega), comp_keep p g ds (acc ++ [g d]) (by rw [List.length_append, List.length_singleton]; omega) fun d hd => h d (List.mem_cons_of_mem _ hd)]
      simp [e]
    | false =>
      rw [if_neg Bool.false_ne_true, comp_keep p g ds acc (by omega) fun d hd => h d (List.mem_cons_of_mem _ hd)]
      simp [e]
/-! ### strings as lists of code points -/
abbrev S (l : List Nat) : D := .str ⟨l.toArray⟩
theorem S_len (l : List Nat) : (Str.length ⟨l.toArray⟩) = l.length := by
  show (l.toArray).size = _
  simp
theorem subS_one (c : Nat) (l : List Nat) : subS ⟨#[c]⟩ ⟨l.toArray⟩ = decide (c ∈ l) := by
  unfold subS
  rw [PySem.StrLaws.found_one]
theorem signs_S (l : List Nat) : signs ⟨l.toArray⟩ = l.map fun c => S [c] := rfl
theorem strsOf_map : ∀ l : List Nat, strsOf (l.map fun c => S [c]) = some (l.map fun c => ⟨#[c]⟩)
  | [] => rfl
  | c :: l => by
    rw [List.map_cons, strsOf, strsOf_map l]
    rfl
end Mi
/-! MiEv2: more applied forms; loops and comprehensions by invariants; data compared. -/
namespace Mi
open PySem PySem.Spec PyProof.Rows L2 ItX
section
variable {env : En} {st : Sto} {i n : Nat} {a b c : EM} {t : TM} {aa ab : AM} {f f' : D → D → M D} {d x y : D} {tr : D → M Bool} {ma mb mu : SM} {ds : List D} {fs : Fs} {tab tT tR : Tab}
/-! ### what a thing is -/
def celC : Option Cl → Option (Nat × Fs)
  | some (.ins c fs) => some (c, fs)
  | _ => none
@[simp] theorem celC_ins {c : Nat} : celC (some (.ins c fs)) = some (c, fs) := rfl
@[simp] theorem celC_lst : celC (some (.lst ds)) = none := rfl
@[simp] theorem clsOf_cell : clsOf (.cell n) st = celC st[n]? := by
  unfold clsOf celC
  first
  | rfl
  | (dsimp only; cases st[n]? with | none => rfl | some c => cases c <;> rfl)
@[simp] theorem clsOf_int {k : Int} : clsOf (.int k) st = none := rfl
@[simp] theorem clsOf_bl {k : Bool} : clsOf (.bl k) st = none := rfl
@[simp] theorem clsOf_str {k : Str} : clsOf (.str k) st = none := rfl
@[simp] theorem clsOf_non : clsOf .non st = none := rfl
@[simp] theorem clsOf_lst : clsOf (.lst ds) st = none := rfl
@[simp] theorem clsOf_fix : clsOf (.fix ds) st = none := rfl
@[simp] theorem clsOf_tup : clsOf (.tup ds) st = none := rfl
def celL : Option Cl → Option (List D)
  | some (.lst ds) => some ds
  | _ => none
@[simp] theorem celL_lst : celL (some (.lst ds)) = some ds := rfl
@[simp] theorem celL_ins {c : Nat} : celL (some (.ins c fs)) = none := rfl
@[simp] theorem seqOf_cell : seqOf (.cell n) st = celL st[n]? := by
  unfold seqOf celL
  first
  | rfl
  | (dsimp only; cases st[n]? with | none => rfl | some c => cases c <;> rfl)
@[simp] theorem seqOf_tup : seqOf (.tup ds) st = none := rfl
@[simp] theorem trkOf_lst : trkOf (.lst ds) st = some ds := rfl
@[simp] theorem trkOf_cell : trkOf (.cell n) st = celL st[n]? := by
  unfold trkOf celL
  first
  | rfl
  | (dsimp only; cases st[n]? with | none => rfl | some c => cases c <;> rfl)
@[simp] theorem seqT_lst : seqT (.lst ds) st = some ds := rfl
@[simp] theorem seqT_fix : seqT (.fix ds) st = some ds := rfl
@[simp] theorem seqT_tup : seqT (.tup ds) st = some ds := rfl
@[simp] theorem seqT_cell : seqT (.cell n) st = celL st[n]? := seqOf_cell
def celT : Option Cl → Option Tag
  | some (.lst _) => some .lst
  | some (.ins c _) => some (.own c)
  | some (.dk _) => some .dic
  | _ => none
@[simp] theorem celT_ins {c : Nat} : celT (some (.ins c fs)) = some (.own c) := rfl
@[simp] theorem celT_lst : celT (some (.lst ds)) = some .lst := rfl
@[simp] theorem tagOf_cell : tagOf (.cell n) st = celT st[n]? := by
  unfold tagOf celT
  first
  | rfl
  | (dsimp only; cases st[n]? with | none => rfl | some c => cases c <;> rfl)
@[simp] theorem tagOf_fix : tagOf (.fix ds) st = some .lst := rfl
/-! ### chains -/
def kChB (f f' : D → D → M D) (c : EM) (env : En) (x y : D) : M D := fun s => (f x y s).bind (kCh f' c env y)
def kChA (f f' : D → D → M D) (b c : EM) (env : En) (x : D) : M D := fun s => (b env s).bind (kChB f f' c env x)
@[simp] theorem kChB_app : kChB f f' c env x y st = (f x y st).bind (kCh f' c env y) := rfl
@[simp] theorem kChA_app : kChA f f' b c env x st = (b env st).bind (kChB f f' c env x) := rfl
@[simp] theorem eChain_app : eChain f f' a b c env st = (a env st).bind (kChA f f' b c env) := rfl
@[simp] theorem kCh_t : kCh f' c env y (.bl true) st = (c env st).bind (f' y) := rfl
@[simp] theorem kCh_f : kCh f' c env y (.bl false) st = .ok (.bl false) st := rfl
def kChTB (f f' : D → D → M D) (tr : D → M Bool) (c : EM) (env : En) (x y : D) : M Bool := fun s => (f x y s).bind (kChT f' tr c env y)
def kChTA (f f' : D → D → M D) (tr : D → M Bool) (b c : EM) (env : En) (x : D) : M Bool := fun s => (b env s).bind (kChTB f f' tr c env x)
@[simp] theorem kChTB_app : kChTB f f' tr c env x y st = (f x y st).bind (kChT f' tr c env y) := rfl
@[simp] theorem kChTA_app : kChTA f f' tr b c env x st = (b env st).bind (kChTB f f' tr c env x) := rfl
@[simp] theorem tChainM_app : tChainM f f' tr a b c env st = (a env st).bind (kChTA f f' tr b c env) := rfl
@[simp] theorem kChT_t : kChT f' tr c env y (.bl true) st = ((c env st).bind (f' y)).bind tr := rfl
@[simp] theorem kChT_f : kChT f' tr c env y (.bl false) st = .ok false st := rfl
/-! ### owned lists -/
def kOwnS (i : Nat) (env : En) (ds : List D) (s : Sto) : SRes := .nx (env.set i (.oL ds)) s
@[simp] theorem kOwnS_app : kOwnS i env ds st = .nx (env.set i (.oL ds)) st := rfl
@[simp] theorem sOwn_app : sOwn i aa env st = (aa env st).go env (kOwnS i env) := rfl
def appR (i : Nat) (a : EM) (env : En) (o : Option Slot) (st : Sto) : SRes := match o with
  | some (.oL ds) => (a env st).go env (kAppO i ds env)
  | _ => .bad
@[simp] theorem sAppO_app : sAppO i a env st = appR i a env env[i]? st := by
  unfold sAppO appR
  cases env[i]? with
  | none => rfl
  | some s => cases s <;> rfl
@[simp] theorem appR_own : appR i a env (some (.oL ds)) st = (a env st).go env (kAppO i ds env) := rfl
@[simp] theorem kAppO_app : kAppO i ds env d st = if ds.length < LIM then .nx (env.set i (.oL (ds ++ [d]))) st else .bad := rfl
def setR (i : Nat) (b a : EM) (env : En) (o : Option Slot) (st : Sto) : SRes := match o with
  | some (.oL ds) => (a env st).go env (kSetO1 i b ds env)
  | _ => .bad
@[simp] theorem sSetO_app : sSetO i b a env st = setR i b a env env[i]? st := by
  unfold sSetO setR
  cases env[i]? with
  | none => rfl
  | some s => cases s <;> rfl
@[simp] theorem setR_own : setR i b a env (some (.oL ds)) st = (a env st).go env (kSetO1 i b ds env) := rfl
@[simp] theorem kSetO1_app : kSetO1 i b ds env d st = (b env st).go env (kSetO i ds env d) := rfl
def setI (i : Nat) (ds : List D) (env : En) (d : D) (o : Option Nat) (s : Sto) : SRes := match o with
  | some k => .nx (env.set i (.oL (ds.set k d))) s
  | none => .bad
@[simp] theorem kSetO_int {j : Int} : kSetO i ds env d (.int j) st = setI i ds env d (ixN ds.length j) st := by
  unfold kSetO setI
  rfl
@[simp] theorem setI_some {k : Nat} : setI i ds env d (some k) st = .nx (env.set i (.oL (ds.set k d))) st := rfl
def frzR (i : Nat) (env : En) : Option Slot → En
  | some (.oL ds) => env.set i (.sh (.lst ds))
  | some (.oI c fs) => env.set i (.sh (.ins c fs))
  | _ => env
@[simp] theorem sFrz_app : sFrz i ma env st = ma (frzR i env env[i]?) st := by
  unfold sFrz frz frzR
  cases env[i]? with
  | none => rfl
  | some s => cases s <;> rfl
@[simp] theorem frzR_own : frzR i env (some (.oL ds)) = env.set i (.sh (.lst ds)) := rfl
/-! ### cells' items -/
@[simp] theorem sSetC_app : sSetC a b c env st = (c env st).go env (kSetC a b env) := rfl
@[simp] theorem kSetC_app : kSetC a b env d st = (a env st).go env (kSetC1 b env d) := rfl
@[simp] theorem kSetC1_app : kSetC1 b env d x st = (b env st).go env (kSetC2 env d x) := rfl
def setC (env : En) (d : D) (n : Nat) (j : Int) (o : Option Cl) (s : Sto) : SRes := match o with
  | some (.lst ds) => (match ixN ds.length j with
    | some k => .nx env (s.set n (.lst (ds.set k d)))
    | none => .bad)
  | _ => .bad
@[simp] theorem kSetC2_app {j : Int} : kSetC2 env d (.cell n) (.int j) st = setC env d n j st[n]? st := by
  unfold kSetC2 setC
  rfl
theorem setC_some {j : Int} {k : Nat} (h : ixN ds.length j = some k) : setC env d n j (some (.lst ds)) st = .nx env (st.set n (.lst (ds.set k d))) := by
  unfold setC
  simp only [h]
/-! ### instances in cells -/
@[simp] theorem kCelI_app {c : Nat} : kCelI c fs st = .ok (.cell st.length) (st ++ [.ins c fs]) := rfl
@[simp] theorem mNewC_app {c : Nat} {dds : List D} {m : List D → M Fs} : mNewC c n dds m ds st = if ds.length + dds.length = n then (m (ds ++ dds) st).bind (kCelI c) else .bad := rfl
@[simp] theorem sFldC_app {cs : List Nat} {g : Str} : sFldC cs g a b env st = (b env st).go env (kFldC1 cs g a env) := rfl
@[simp] theorem kFldC1_app {cs : List Nat} {g : Str} : kFldC1 cs g a env d st = (a env st).go env (kFldC cs g env d) := rfl
def fldCR (cs : List Nat) (g : Str) (env : En) (d : D) (n : Nat) (o : Option Cl) (s : Sto) : SRes := match o with
  | some (.ins c fs) => if cs.contains c = true ∧ fs.length < 1000 then .nx env (s.set n (.ins c (put g d fs))) else .bad
  | _ => .bad
@[simp] theorem kFldC_cell {cs : List Nat} {g : Str} : kFldC cs g env d (.cell n) st = fldCR cs g env d n st[n]? st := by
  unfold kFldC fldCR
  rfl
@[simp] theorem fldCR_ins {cs : List Nat} {g : Str} {c : Nat} : fldCR cs g env d n (some (.ins c fs)) st = if cs.contains c = true ∧ fs.length < 1000 then .nx env (st.set n (.ins c (put g d fs))) else .bad := rfl
def augR' (i : Nat) (f : D → D → M D) (a : EM) (env : En) (o : Option Slot) (st : Sto) : SRes := match o with
  | some (.sh d) => (a env st).go env (kAug i f d env)
  | _ => .bad
@[simp] theorem sAug_app : sAug i f a env st = augR' i f a env env[i]? st := by
  unfold sAug augR'
  cases env[i]? with
  | none => rfl
  | some s => cases s <;> rfl
@[simp] theorem augR'_sh : augR' i f a env (some (.sh d)) st = (a env st).go env (kAug i f d env) := rfl
@[simp] theorem kAug_app : kAug i f d env y st = (f d y st).go env (kAug2 i env) := rfl
@[simp] theorem kAug2_app : kAug2 i env d st = .nx (env.set i (.sh d)) st := rfl
def iAddR (tab : Tab) (x y : D) (o : Option (Nat × Fs)) : M D := fun st => match o with
  | some (c, _) => (match tab.lookup c with
    | some g => g [x, y] st
    | none => .bad)
  | none => (match x, y with
    | .int i, .int j => .ok (.int (i + j)) st
    | .str a, .str b => if a.length + b.length ≤ LIM then .ok (.str (a ++ b)) st else .bad
    | _, _ => .bad)
@[simp] theorem iAdd_app : iAdd tab x y st = iAddR tab x y (clsOf x st) st := by
  unfold iAdd iAddR
  cases clsOf x st with
  | none => rfl
  | some p => rfl
theorem iAddR_own {c : Nat} {g : List D → M D} (h : tab.lookup c = some g) : iAddR tab x y (some (c, fs)) st = g [x, y] st := by
  unfold iAddR
  simp only [h]
@[simp] theorem iAddR_int {k j : Int} : iAddR tab (.int k) (.int j) none st = .ok (.int (k + j)) st := rfl
/-! ### operators -/
def tabR (tab : Tab) (c : Nat) (ds : List D) : M D := fun st => match tab.lookup c with
  | some g => g ds st
  | none => .bad
theorem tabR_some {c : Nat} {g : List D → M D} (h : tab.lookup c = some g) : tabR tab c ds st = g ds st := by
  unfold tabR
  simp only [h]
def opXR (base : D → D → M D) (tab tT tR : Tab) (x y : D) (o p : Option (Nat × Fs)) : M D := fun st => match o, p with
  | some _, some _ => ownOp tab x y st
  | some _, none => ownT tT x y st
  | none, some _ => ownR tR x y st
  | none, none => base x y st
@[simp] theorem opX_app {base : D → D → M D} : opX base tab tT tR x y st = opXR base tab tT tR x y (clsOf x st) (clsOf y st) st := by
  unfold opX opXR
  cases clsOf x st <;> cases clsOf y st <;> rfl
@[simp] theorem opXR_base {base : D → D → M D} : opXR base tab tT tR x y none none st = base x y st := rfl
@[simp] theorem opXR_own {base : D → D → M D} {p q : Nat × Fs} : opXR base tab tT tR x y (some p) (some q) st = ownOp tab x y st := rfl
@[simp] theorem opXR_t {base : D → D → M D} {p : Nat × Fs} : opXR base tab tT tR x y (some p) none st = ownT tT x y st := rfl
@[simp] theorem opXR_r {base : D → D → M D} {p : Nat × Fs} : opXR base tab tT tR x y none (some p) st = ownR tR x y st := rfl
theorem ownOp_at {c : Nat} {g : List D → M D} {fs2 : Fs} (h1 : clsOf x st = some (c, fs)) (h2 : clsOf y st = some (c, fs2)) (h : tab.lookup c = some g) : ownOp tab x y st = g [x, y] st := by
  unfold ownOp
  simp only [h1, h2, h, if_true]
theorem ownT_at {c : Nat} {g : List D → M D} {k : Int} (h1 : clsOf x st = some (c, fs)) (h : tab.lookup c = some g) : ownT tab x (.int k) st = g [x, .int k] st := by
  unfold ownT
  simp only [h1, h]
theorem ownR_at {c : Nat} {g : List D → M D} {k : Int} (h1 : clsOf y st = some (c, fs)) (h : tab.lookup c = some g) : ownR tab (.int k) y st = g [y, .int k] st := by
  unfold ownR
  simp only [h1, h]
def ixR (tab : Tab) (x y : D) (o : Option (Nat × Fs)) : M D := fun st => match o with
  | some (c, _) => tabR tab c [x, y] st
  | none => ixD x y st
@[simp] theorem ixOwn_app : ixOwn tab x y st = ixR tab x y (clsOf x st) st := by
  unfold ixOwn ixR tabR
  cases clsOf x st with
  | none => rfl
  | some p => rfl
@[simp] theorem ixR_none : ixR tab x y none st = ixD x y st := rfl
@[simp] theorem ixR_some {c : Nat} : ixR tab x y (some (c, fs)) st = tabR tab c [x, y] st := rfl
def atR (o : Option D) (s : Sto) : Res D := match o with
  | some d => .ok d s
  | none => .bad
@[simp] theorem atR_some : atR (some d) st = .ok d st := rfl
@[simp] theorem ixD_lst {k : Int} : ixD (.lst ds) (.int k) st = atR (atI ds k) st := by
  show (match seqOf (.lst ds) st with
    | some xs => (match atI xs k with
      | some d => Res.ok d st
      | none => .bad)
    | none => .bad) = _
  rw [seqOf_lst]
  unfold atR
  dsimp only
@[simp] theorem ixD_tup {k : Int} : ixD (.tup ds) (.int k) st = atR (atI ds k) st := by
  unfold ixD atR
  first
  | rfl
  | (dsimp only; cases atI ds k <;> rfl)
def celI (o : Option (List D)) (k : Int) (st : Sto) : Res D := match o with
  | some xs => atR (atI xs k) st
  | none => .bad
@[simp] theorem ixD_cell {k : Int} : ixD (.cell n) (.int k) st = celI (celL st[n]?) k st := by
  show (match seqOf (.cell n) st with
    | some xs => (match atI xs k with
      | some d => Res.ok d st
      | none => .bad)
    | none => .bad) = _
  rw [seqOf_cell]
  unfold celI
  cases celL st[n]? with
  | none => rfl
  | some xs =>
    dsimp only
    unfold atR
    cases atI xs k <;> rfl
@[simp] theorem celI_some {k : Int} : celI (some ds) k st = atR (atI ds k) st := rfl
@[simp] theorem addL_int {k j : Int} : addL (.int k) (.int j) st = .ok (.int (k + j)) st := rfl
@[simp] theorem addL_str {k j : Str} : addL (.str k) (.str j) st = if k.length + j.length ≤ LIM then .ok (.str (k ++ j)) st else .bad := rfl
@[simp] theorem addL_lst {k j : List D} : addL (.lst k) (.lst j) st = if k.length + j.length ≤ LIM then .ok (.lst (k ++ j)) st else .bad := rfl
theorem mulL_ok {k j : Int} (h : (-(2 ^ 64) < k ∧ k < 2 ^ 64) ∨ (-(2 ^ 64) < j ∧ j < 2 ^ 64)) : mulL (.int k) (.int j) st = .ok (.int (k * j)) st := by
  exact cif_pos (.inl h)
theorem mulL_lst {k : List D} {j : Int} (h : (-(2 ^ 63) ≤ j ∧ j < 2 ^ 63) ∧ k.length * j.toNat ≤ LIM) : mulL (.lst k) (.int j) st = .ok (.lst (List.replicate j.toNat k).flatten) st := by
  exact cif_pos h
theorem fdvL_ok {k j : Int} (h : 0 < j ∧ j < 2 ^ 250) : fdvL (.int k) (.int j) st = .ok (.int (k / j)) st := by
  exact cif_pos h
@[simp] theorem lCat_app : lCat a b env st = (a env st).bind (kCatL b env) := rfl
@[simp] theorem kCatL_app : kCatL b env x st = (b env st).bind (kCatL2 x) := rfl
@[simp] theorem kCatL2_lst {k j : List D} : kCatL2 (.lst k) (.lst j) st = if k.length + j.length ≤ LIM then .ok (k ++ j) st else .bad := rfl
@[simp] theorem lRep_app : lRep a b env st = (a env st).bind (kRepL b env) := rfl
@[simp] theorem kRepL_app : kRepL b env x st = (b env st).bind (kRepL2 x) := rfl
@[simp] theorem lCall_app {g : List D → M (List D)} : lCall g aa env st = (aa env st).bind g := rfl
def lstR (o : Option (List D)) (s : Sto) : Res (List D) := match o with
  | some d => .ok d s
  | none => .bad
@[simp] theorem lstR_some : lstR (some ds) st = .ok ds st := rfl
@[simp] theorem listD_app : listD [x] st = lstR (seqT x st) st := by
  unfold listD lstR
  first
  | rfl
  | (dsimp only; cases seqT x st <;> rfl)
def tupR (o : Option (List D)) (s : Sto) : Res D := match o with
  | some d => .ok (.tup d) s
  | none => .bad
@[simp] theorem tupR_some : tupR (some ds) st = .ok (.tup ds) st := rfl
@[simp] theorem tupD_app : tupD [x] st = tupR (seqT x st) st := by
  unfold tupD tupR
  first
  | rfl
  | (dsimp only; cases seqT x st <;> rfl)
variable {itab : List (Nat × Str)} {ltab : Tab}
theorem listO_none (h : clsOf x st = none) : listO itab ltab [x] st = lstR (seqT x st) st := by
  unfold listO
  simp only [h]
  exact listD_app
theorem listO_own {c : Nat} {g : Str} {xs : List D} {l : List D → M D} (h : clsOf x st = some (c, fs)) (h1 : itab.lookup c = some g) (h2 : fs.lookup g = some (.lst xs)) (h3 : ltab.lookup c = some l) : listO itab ltab [x] st = (lenD ltab [x] st).bind (kListO xs) := by
  unfold listO
  simp only [h, h1, h2, h3]
theorem kListO_ok {xs : List D} {k : Int} (h : (0 ≤ k ∧ k ≤ 16777216) ∧ xs.length ≤ LIM) : kListO xs (.int k) st = .ok xs st := by
  exact cif_pos h
@[simp] theorem lenD_lst : lenD tab [.lst ds] st = .ok (.int ds.length) st := rfl
@[simp] theorem lenD_fix : lenD tab [.fix ds] st = .ok (.int ds.length) st := rfl
@[simp] theorem lenD_tup : lenD tab [.tup ds] st = .ok (.int ds.length) st := rfl
theorem lenD_cell (h : st[n]? = some (.lst ds)) : lenD tab [.cell n] st = .ok (.int ds.length) st := by
  show (match seqOf (.cell n) st with
    | some xs => Res.ok (D.int xs.length) st
    | none => (ownLen tab (.cell n) st).bind fun n s => .ok (.int n) s) = _
  rw [seqOf_cell, h]
  rfl
def kIntR (k : Int) : M D := fun s => .ok (.int k) s
@[simp] theorem kIntR_app {k : Int} : kIntR k st = .ok (.int k) st := rfl
noncomputable def lenC (tab : Tab) (n : Nat) (o : Option Cl) (st : Sto) : Res D := match o with
  | some (.lst ds) => .ok (.int ds.length) st
  | _ => (ownLen tab (.cell n) st).bind kIntR
@[simp] theorem lenD_celR : lenD tab [.cell n] st = lenC tab n st[n]? st := by
  show (match seqOf (.cell n) st with
    | some xs => Res.ok (D.int xs.length) st
    | none => (ownLen tab (.cell n) st).bind fun n s => .ok (.int n) s) = _
  rw [seqOf_cell]
  unfold lenC celL
  cases st[n]? with
  | none => rfl
  | some c => cases c <;> rfl
@[simp] theorem lenC_lst : lenC tab n (some (.lst ds)) st = .ok (.int ds.length) st := rfl
@[simp] theorem lenC_ins {c : Nat} : lenC tab n (some (.ins c fs)) st = (ownLen tab (.cell n) st).bind kIntR := rfl
theorem ownLen_at {c : Nat} {g : List D → M D} {k : Int} {s1 : Sto} (h1 : clsOf x st = some (c, fs)) (h2 : tab.lookup c = some g) (h3 : g [x] st = .ok (.int k) s1) (h4 : 0 ≤ k ∧ k < 2 ^ 63) : ownLen tab x st = .ok k s1 := by
  unfold ownLen
  simp only [h1, h2, h3]
  rw [cif_pos h4]
theorem lenD_own {c : Nat} {g : List D → M D} {k : Int} {s1 : Sto} (h0 : seqOf x st = none) (h1 : clsOf x st = some (c, fs)) (h2 : tab.lookup c = some g) (h3 : g [x] st = .ok (.int k) s1) (h4 : 0 ≤ k ∧ k < 2 ^ 63) : lenD tab [x] st = .ok (.int k) s1 := by
  have key : ownLen tab x st = .ok k s1 := by
    unfold ownLen
    simp only [h1, h2, h3]
    rw [cif_pos h4]
  have g2 : lenD tab [x] st = (match seqOf x st with
      | some xs => Res.ok (D.int xs.length) st
      | none => (ownLen tab x st).bind fun n s => .ok (.int n) s) := by
    cases x <;> first | rfl | (cases h1)
  rw [g2, h0]
  dsimp only
  rw [key]
  rfl
@[simp] theorem iR3_app : iR3 aa env st = (aa env st).bind kR3 := rfl
theorem kR3_app {k j l : Int} : kR3 [.int k, .int j, .int l] st = cif ((-(2 ^ 61) ≤ k ∧ k < 2 ^ 61) ∧ (-(2 ^ 61) ≤ j ∧ j < 2 ^ 61) ∧ 0 < l ∧ l < 2 ^ 30) (.ok (rngC k l (turns k j l)) st) .bad := rfl
@[simp] theorem iRev_app : iRev a env st = (a env st).bind kRev := rfl
theorem kRev_app {k : Int} : kRev (.int k) st = cif (-(2 ^ 62) ≤ k ∧ k < 2 ^ 62) (.ok (rngC ((k.toNat : Int) - 1) (-1) k.toNat) st) .bad := rfl
@[simp] theorem iEnumM_app : iEnumM aa env st = (aa env st).bind kEnum := rfl
@[simp] theorem kEnum_lst : kEnum [.lst ds] st = .ok (enumL 0 ds) st := rfl
@[simp] theorem maxD_app {k j : Int} : maxD [.int k, .int j] st = .ok (.int (if j > k then j else k)) st := rfl
@[simp] theorem minD_app {k j : Int} : minD [.int k, .int j] st = .ok (.int (if j < k then j else k)) st := rfl
@[simp] theorem sUnp_app {tg : TgM} : sUnp tg a env st = (a env st).go env (kUnp tg env) := rfl
def unpR (o : Option En) (s : Sto) : SRes := match o with
  | some e => .nx e s
  | none => .bad
@[simp] theorem unpR_some : unpR (some env) st = .nx env st := rfl
@[simp] theorem kUnp_app {tg : TgM} : kUnp tg env d st = unpR (tg d env) st := by
  unfold kUnp unpR
  cases tg d env <;> rfl
@[simp] theorem gA_tup {ts : List TgM} : gA ts (.tup ds) env = gTs ts ds env := rfl
@[simp] theorem gA_lst {ts : List TgM} : gA ts (.lst ds) env = gTs ts ds env := rfl
/-! ### try -/
def tryG (hds : List Hd) (mu : SM) (r : SRes) : SRes := match r with
  | .nx env' st' => mu env' st'
  | .exc env' c fs st' => hdsRun hds env' c fs st'
  | r => r
@[simp] theorem sTryG_app {hds : List Hd} : sTryG hds mb mu env st = tryG hds mu (mb env st) := rfl
@[simp] theorem tryG_nx {hds : List Hd} : tryG hds mu (.nx env st) = mu env st := rfl
@[simp] theorem tryG_rt {hds : List Hd} : tryG hds mu (.rt d st) = .rt d st := rfl
@[simp] theorem tryG_exc {hds : List Hd} {c : Nat} : tryG hds mu (.exc env c fs st) = hdsRun hds env c fs st := rfl
@[simp] theorem hdsRun_nil {c : Nat} : hdsRun [] env c fs st = .exc env c fs st := rfl
def hdR (o : Option Bool) (i : Option Nat) (ms : SM) (r : List Hd) (env : En) (c : Nat) (fs : Fs) (st : Sto) : SRes := match o with
  | some true => suiteEnd i (ms (match i with | some i => env.set i (.ex c fs) | none => env) st)
  | some false => hdsRun r env c fs st
  | none => .bad
@[simp] theorem hdsRun_cons {sub : Nat → Option Bool} {j : Option Nat} {r : List Hd} {c : Nat} : hdsRun ((sub, j, ma) :: r) env c fs st = hdR (sub c) j ma r env c fs st := by
  unfold hdsRun hdR
  cases sub c with
  | none => rfl
  | some b => cases b <;> rfl
@[simp] theorem hdR_t {r : List Hd} {c : Nat} : hdR (some true) (some i) ma r env c fs st = suiteEnd (some i) (ma (env.set i (.ex c fs)) st) := rfl
@[simp] theorem hdR_t0 {r : List Hd} {c : Nat} : hdR (some true) none ma r env c fs st = suiteEnd none (ma env st) := rfl
@[simp] theorem hdR_f {r : List Hd} {j : Option Nat} {c : Nat} : hdR (some false) j ma r env c fs st = hdsRun r env c fs st := rfl
@[simp] theorem suiteEnd_nx : suiteEnd (some i) (.nx env st) = .nx ((clr env).set i .no) st := rfl
@[simp] theorem suiteEnd_nx0 : suiteEnd none (.nx env st) = .nx (clr env) st := rfl
/-! ### more small things -/
@[simp] theorem neS_int {k j : Int} : neS (.int k) (.int j) st = .ok (.bl (!decide (k = j))) st := rfl
@[simp] theorem neS_str {k j : Str} : neS (.str k) (.str j) st = .ok (.bl (!decide (k = j))) st := rfl
@[simp] theorem unNeg_int {k : Int} : unNeg (.int k) st = .ok (.int (-k)) st := rfl
@[simp] theorem isD_non {neg : Bool} : isD neg .non .non st = .ok (.bl (!neg)) st := by cases neg <;> rfl
@[simp] theorem isD_intnon {neg : Bool} {k : Int} : isD neg (.int k) .non st = .ok (.bl neg) st := by cases neg <;> rfl
end
/-! ### items by place -/
theorem atI_nat' {ds : List D} {k : Nat} (h : k < ds.length) : atI ds (k : Int) = some ds[k] := by
  rw [atI_nat]
  exact List.getElem?_eq_getElem h
theorem ixN_nat {n k : Nat} (h : k < n) : ixN n (k : Int) = some k := by
  unfold ixN
  rw [if_pos (by omega)]
  simp [h]
@[simp] theorem atI_cast {α : Type} (ds : List α) (n : Nat) : atI ds (n : Int) = ds[n]? := by
  cases h : ds[n]? with
  | some v => exact atI_nat h
  | none =>
    have hl : ds.length ≤ n := List.getElem?_eq_none_iff.mp h
    unfold atI ixN
    rw [if_pos (by omega), if_neg (by omega)]
    rfl
theorem atI_lit {ds : List D} (n : Nat) : atI ds (@OfNat.ofNat Int n _) = ds[n]? := atI_cast ds n
theorem atI_last {α : Type} (ds : List α) (x : α) : atI (ds ++ [x]) (-1) = some x := by
  unfold atI ixN
  rw [if_neg (by omega), if_pos (by simp only [List.length_append, List.length_singleton]; omega)]
  have e : (-1 + ((ds ++ [x]).length : Int)).toNat = ds.length := by simp only [List.length_append, List.length_singleton]; omega
  rw [e]
  simp
@[simp] theorem atI_0 {ds : List D} : atI ds 0 = ds[0]? := atI_lit 0
@[simp] theorem atI_1 {ds : List D} : atI ds 1 = ds[1]? := atI_lit 1
@[simp] theorem atI_2 {ds : List D} : atI ds 2 = ds[2]? := atI_lit 2
@[simp] theorem atI_3 {ds : List D} : atI ds 3 = ds[3]? := atI_lit 3
@[simp] theorem atI_4 {ds : List D} : atI ds 4 = ds[4]? := atI_lit 4
@[simp] theorem atI_5 {ds : List D} : atI ds 5 = ds[5]? := atI_lit 5
theorem ixN_lit {n k : Nat} (h : k < n) : ixN n (@OfNat.ofNat Int k _) = some k := ixN_nat h
section
variable {env : En} {d x y z w : D} {n : Nat} {l : List D} {st : Sto}
@[simp] theorem setC_0 : setC env d n 0 (some (.lst (x :: l))) st = .nx env (st.set n (.lst (d :: l))) := setC_some (ixN_lit (k := 0) (by simp))
@[simp] theorem setC_1 : setC env d n 1 (some (.lst (x :: y :: l))) st = .nx env (st.set n (.lst (x :: d :: l))) := setC_some (ixN_lit (k := 1) (by simp))
@[simp] theorem setC_2 : setC env d n 2 (some (.lst (x :: y :: z :: l))) st = .nx env (st.set n (.lst (x :: y :: d :: l))) := setC_some (ixN_lit (k := 2) (by simp))
@[simp] theorem setC_3 : setC env d n 3 (some (.lst (x :: y :: z :: w :: l))) st = .nx env (st.set n (.lst (x :: y :: z :: d :: l))) := setC_some (ixN_lit (k := 3) (by simp))
@[simp] theorem tyD_cell : tyD "list" (.cell n) st = (celL st[n]?).isSome := by
  show (("list" == "list") && (seqOf (.cell n) st).isSome) = _
  rw [seqOf_cell]
  rfl
def popR (n : Nat) (k : Int) (o : Option Cl) (st : Sto) : Res D := match o with
  | some (.lst xs) => if xs.length ≤ LIM then (match ixN xs.length k with
      | some j => (match xs[j]? with
        | some d => .ok d (st.set n (.lst (xs.eraseIdx j)))
        | none => .bad)
      | none => .bad) else .bad
  | _ => .bad
@[simp] theorem popD_cell {k : Int} : popD (.cell n) [.int k] st = popR n k st[n]? st := by
  unfold popD popR
  rfl
theorem popR_3 (h : l.length ≤ 1000) : popR n 3 (some (.lst (x :: y :: z :: w :: l))) st = .ok w (st.set n (.lst (x :: y :: z :: l))) := by
  unfold popR
  dsimp only
  rw [if_pos (by simp only [List.length_cons, LIM]; omega), ixN_lit (k := 3) (by simp)]
  rfl
theorem popR_0 (h : l.length ≤ 100000) : popR n 0 (some (.lst (x :: l))) st = .ok x (st.set n (.lst l)) := by
  unfold popR
  dsimp only
  rw [if_pos (by simp only [List.length_cons, LIM]; omega), ixN_lit (k := 0) (by simp)]
  rfl
end
/-! ### loops by an invariant -/
theorem for_inv {tg : TgM} {ma : SM} (I : List D → En → Sto → Prop) : ∀ (ds : List D) (env : En) (st : Sto), I ds env st →
    (∀ d ds env st, I (d :: ds) env st → ∃ env1, tg d env = some env1 ∧ ∃ env2 st2, (ma env1 st = .nx env2 st2 ∨ ma env1 st = .ct env2 st2) ∧ I ds env2 st2) → ∃ env' st', forLoop tg ma ds env st = .nx env' st' ∧ I [] env' st'
  | [], env, st, h, _ => ⟨env, st, rfl, h⟩
  | d :: ds, env, st, h, k => by
    obtain ⟨env1, e1, env2, st2, e2, h2⟩ := k d ds env st h
    obtain ⟨env', st', e3, h3⟩ := for_inv I ds env2 st2 h2 k
    refine ⟨env', st', ?_, h3⟩
    rw [forLoop_cons, e1, tgR_some]
    rcases e2 with e2 | e2 <;> rw [e2] <;> exact e3
/-- each turn keeps the slots that are looked at -/
theorem comp_inv {tg : TgM} {tst : TM} {elt : EM} {env : En} (I : Sto → Prop) (R : D → D → Prop) : ∀ (ds acc : List D) (st : Sto), acc.length + ds.length ≤ LIM → I st →
    (∀ d ∈ ds, ∀ st, I st → ∃ env1, tg d env = some env1 ∧ ∃ st1, tst env1 st = .ok true st1 ∧ ∃ e st2, elt env1 st1 = .ok e st2 ∧ I st2 ∧ R d e) →
    ∃ es st', compLoop tg tst elt env ds acc st = .ok (acc ++ es) st' ∧ I st' ∧ es.length = ds.length ∧ ∀ e ∈ es, ∃ d ∈ ds, R d e
  | [], acc, st, _, h, _ => ⟨[], st, by simp [compLoop], h, rfl, fun e he => by simp at he⟩
  | d :: ds, acc, st, hl, h, k => by
    obtain ⟨env1, e1, st1, e2, e, st2, e3, h2, r⟩ := k d (List.mem_cons_self ..) st h
    rw [List.length_cons] at hl
    obtain ⟨es, st', e4, h3, hlen, hr⟩ := comp_inv (tg := tg) (tst := tst) (elt := elt) I R ds (acc ++ [e]) st2 (by rw [List.length_append, List.length_singleton]; omega) h2 fun d hd => k d (List.mem_cons_of_mem _ hd)
    refine ⟨e :: es, st', ?_, h3, by simp [hlen], fun e' he => ?_⟩
    · rw [compLoop, e1]
      dsimp only
      rw [e2]
      dsimp only
      rw [if_pos rfl, e3]
      dsimp only
      rw [if_pos (by omega), e4]
      simp
    · rcases List.mem_cons.mp he with z | z
      · subst z; exact ⟨d, List.mem_cons_self .., r⟩
      · obtain ⟨d', hd', r'⟩ := hr e' z
        exact ⟨d', List.mem_cons_of_mem _ hd', r'⟩
/-! ### data compared -/
/-- plain data that may be compared -/
def Dat (d : D) (a : PyData) : Prop := D.pd d = some a ∧ a.canLay0 = true
def Dats (ds : List D) (as : List PyData) : Prop := D.pds ds = some as ∧ PyData.canLayAll0 as = true
theorem Dats.nil : Dats [] [] := ⟨rfl, rfl⟩
theorem Dats.cons {d : D} {ds : List D} {a : PyData} {as : List PyData} (h : Dat d a) (t : Dats ds as) : Dats (d :: ds) (a :: as) := by
  refine ⟨?_, ?_⟩
  · rw [D.pds, h.1]
    show (D.pds ds).map _ = _
    rw [t.1]
    rfl
  · rw [PyData.canLayAll0, h.2, t.2]
    rfl
theorem Dats.append {ds es : List D} {as bs : List PyData} (h : Dats ds as) (t : Dats es bs) : Dats (ds ++ es) (as ++ bs) := by
  induction ds generalizing as with
  | nil =>
    have : as = [] := by
      have := h.1
      rw [D.pds] at this
      exact (Option.some.inj this).symm
    subst this
    exact t
  | cons d ds ih =>
    obtain ⟨h1, h2⟩ := h
    rw [D.pds] at h1
    cases e : D.pd d with
    | none => rw [e] at h1; cases h1
    | some a =>
      rw [e] at h1
      cases e2 : D.pds ds with
      | none => rw [e2] at h1; cases h1
      | some r =>
        rw [e2] at h1
        cases h1
        rw [PyData.canLayAll0, Bool.and_eq_true] at h2
        exact .cons ⟨e, h2.1⟩ (ih ⟨e2, h2.2⟩)
theorem Dat.int (k : Int) : Dat (.int k) (.int k) := ⟨rfl, rfl⟩
theorem Dat.non : Dat .non .none := ⟨rfl, rfl⟩
theorem Dat.bl (b : Bool) : Dat (.bl b) (.bool b) := ⟨rfl, rfl⟩
theorem Dat.S (l : List Nat) (h : ∀ c ∈ l, c < 0x110000) : Dat (S l) (.str ⟨l.toArray⟩) := ⟨rfl, by
  show Array.all l.toArray _ = true
  simpa using h⟩
theorem Dat.tup {ds : List D} {as : List PyData} (h : Dats ds as) : Dat (.tup ds) (.tuple as) := ⟨by show (D.pds ds).map _ = _; rw [h.1]; rfl, h.2⟩
theorem Dat.lst {ds : List D} {as : List PyData} (h : Dats ds as) : Dat (.lst ds) (.list as) := ⟨by show (D.pds ds).map _ = _; rw [h.1]; rfl, h.2⟩
/-- every item is data -/
theorem dats_of {ds : List D} (h : ∀ d ∈ ds, ∃ a, Dat d a ∧ a.depth ≤ 10) : ∃ as, Dats ds as ∧ PyData.depthAll as ≤ 10 := by
  induction ds with
  | nil => exact ⟨[], .nil, by simp [PyData.depthAll]⟩
  | cons d ds ih =>
    obtain ⟨a, h1, h2⟩ := h d (List.mem_cons_self ..)
    obtain ⟨as, h3, h4⟩ := ih fun x hx => h x (List.mem_cons_of_mem _ hx)
    exact ⟨a :: as, .cons h1 h3, by rw [PyData.depthAll]; omega⟩
theorem shaped_list {as : List PyData} (h : PyData.canLayAll0 as = true) (k : PyData.depthAll as ≤ 10) : SeqAt.shaped (.list as) = true := by
  unfold SeqAt.shaped
  rw [Bool.and_eq_true]
  refine ⟨h, ?_⟩
  rw [decide_eq_true_eq, PyData.depth]
  omega
section
variable {tab : Tab} {nf : Nat → Tag → Bool} {st : Sto} {ds es : List D} {as bs : List PyData}
theorem eqD_dats (h1 : Dats ds as) (k1 : PyData.depthAll as ≤ 10) (h2 : Dats es bs) (k2 : PyData.depthAll bs ≤ 10) : eqD tab nf (.lst ds) (.lst es) st = .ok (.bl (PyData.eqvAll as bs)) st :=
  eqD_lst h1.1 h2.1 (shaped_list h1.2 k1) (shaped_list h2.2 k2)
theorem neD_dats (h1 : Dats ds as) (k1 : PyData.depthAll as ≤ 10) (h2 : Dats es bs) (k2 : PyData.depthAll bs ≤ 10) : neD (.lst ds) (.lst es) st = .ok (.bl (!PyData.eqvAll as bs)) st :=
  neD_lst h1.1 h2.1 (shaped_list h1.2 k1) (shaped_list h2.2 k2)
end
end Mi
/-! MiPure: lists of plain data compared; sorting by the day as an insertion. -/
namespace Mi
open PySem PySem.Spec PyProof.Rows L2
/-! ### plain data -/
def Dd (r : D) : Prop := ∃ a, Dat r a ∧ a.depth ≤ 10
def Dds (rows : List D) : Prop := ∀ r ∈ rows, Dd r
section
variable {st : Sto} {a b rows : List D} {tab : Tab} {nf : Nat → Tag → Bool}
theorem Dds.append (h : Dds a) (k : Dds b) : Dds (a ++ b) := fun r hr => (List.mem_append.mp hr).elim (h r) (k r)
theorem Dds.nil : Dds [] := fun _ h => by simp at h
theorem Dds.dats (h : Dds rows) : ∃ as, Dats rows as ∧ PyData.depthAll as ≤ 10 := dats_of h
theorem refl_dats {as : List PyData} (h : PyData.canLayAll0 as = true) : PyData.eqvAll as as = true := by
  have e := SeqAt.eqv_refl (.list as) h
  exact e
/-- are two lists equal, as Python tells -/
noncomputable def same (a b : List D) : Bool := match D.pds a, D.pds b with
  | some x, some y => PyData.eqvAll x y
  | _, _ => false
theorem eqD_rows (h : Dds a) (k : Dds b) : eqD tab nf (.lst a) (.lst b) st = .ok (.bl (same a b)) st := by
  obtain ⟨as, h1, h2⟩ := h.dats
  obtain ⟨bs, k1, k2⟩ := k.dats
  rw [eqD_dats h1 h2 k1 k2]
  unfold same
  rw [h1.1, k1.1]
theorem eqD_cellR {n : Nat} (hn : st[n]? = some (.lst a)) (h : Dds a) (k : Dds b) : eqD tab nf (.cell n) (.lst b) st = .ok (.bl (same a b)) st := by
  obtain ⟨as, h1, h2⟩ := h.dats
  obtain ⟨bs, k1, k2⟩ := k.dats
  have e : pdT (.cell n) st = some (.list as) := by
    unfold pdT
    dsimp only
    rw [hn]
    dsimp only
    rw [h1.1]
    rfl
  rw [eqD_cell e k1.1 (shaped_list h1.2 h2) (shaped_list k1.2 k2)]
  unfold same
  rw [h1.1, k1.1]
  rfl
theorem same_self (h : Dds rows) : same rows rows = true := by
  obtain ⟨as, h1, h2⟩ := h.dats
  unfold same
  rw [h1.1]
  exact refl_dats h1.2
theorem eqD_self (h : Dds rows) : eqD tab nf (.lst rows) (.lst rows) st = .ok (.bl true) st := by
  rw [eqD_rows h h, same_self h]
theorem neD_self (h : Dds rows) : neD (.lst rows) (.lst rows) st = .ok (.bl false) st := by
  obtain ⟨as, h1, h2⟩ := h.dats
  rw [neD_dats h1 h2 h1 h2, refl_dats h1.2]
  rfl
theorem eqvAll_len : ∀ {a b : List PyData}, PyData.eqvAll a b = true → a.length = b.length
  | [], [], _ => rfl
  | [], _ :: _, h => by simp [PyData.eqvAll] at h
  | _ :: _, [], h => by simp [PyData.eqvAll] at h
  | x :: a, y :: b, h => by
    rw [PyData.eqvAll, Bool.and_eq_true] at h
    rw [List.length_cons, List.length_cons, eqvAll_len h.2]
theorem dats_len : ∀ {rows : List D} {as : List PyData}, D.pds rows = some as → as.length = rows.length
  | [], as, h => by rw [D.pds] at h; cases h; rfl
  | x :: rows, as, h => by
    rw [D.pds] at h
    cases e : D.pd x with
    | none => rw [e] at h; cases h
    | some b =>
      rw [e] at h
      cases e2 : D.pds rows with
      | none => rw [e2] at h; cases h
      | some r => rw [e2] at h; cases h; rw [List.length_cons, List.length_cons, dats_len e2]
theorem same_len (h : same a b = true) : a.length = b.length := by
  unfold same at h
  split at h
  · rename_i x y h1 h2
    rw [← dats_len h1, ← dats_len h2, eqvAll_len h]
  · cases h
theorem same_nil (h : Dds rows) : same rows [] = decide (rows = []) := by
  cases rows with
  | nil => rw [same_self h]; simp
  | cons x r =>
    cases e : same (x :: r) [] with
    | false => simp
    | true => have := same_len e; simp at this
end
/-! ### sorting by the day: an insertion -/
def insD (x : D) (out : List D) : List D := out.take (out.filter fun o => leK o x).length ++ [x] ++ out.drop (out.filter fun o => leK o x).length
def Asc (l : List D) : Prop := l.Pairwise fun a b => leK a b = true
theorem leK_iff {a b : D} : leK a b = true ↔ kOf a ≤ kOf b := by unfold leK; exact decide_eq_true_iff
theorem asc_split {x : D} : ∀ {out : List D}, Asc out → out.filter (fun o => leK o x) ++ out.filter (fun o => !leK o x) = out
  | [], _ => rfl
  | a :: out, h => by
    obtain ⟨h1, h2⟩ := List.pairwise_cons.mp h
    cases e : leK a x with
    | true => rw [List.filter_cons_of_pos (by simpa using e), List.filter_cons_of_neg (by simp [e]), List.cons_append, asc_split h2]
    | false =>
      have hn : ∀ o ∈ out, leK o x = false := fun o ho => by
        have := leK_iff.mp (h1 o ho)
        have ne : ¬ kOf a ≤ kOf x := fun z => by rw [leK_iff.mpr z] at e; cases e
        cases e2 : leK o x with
        | false => rfl
        | true => have := leK_iff.mp e2; omega
      rw [List.filter_cons_of_neg (by simp [e]), List.filter_cons_of_pos (by simp [e]), List.filter_eq_nil_iff.mpr (fun o ho => by simp [hn o ho]), List.filter_eq_self.mpr (fun o ho => by simp [hn o ho])]
      rfl
theorem insD_eq {x : D} {out : List D} (h : Asc out) : insD x out = out.filter (fun o => leK o x) ++ x :: out.filter (fun o => !leK o x) := by
  have e := asc_split (x := x) h
  unfold insD
  generalize hf : out.filter (fun o => leK o x) = A at *
  generalize out.filter (fun o => !leK o x) = B at *
  subst e
  rw [List.take_left, List.drop_left]
  simp
theorem insD_asc {x : D} {out : List D} (h : Asc out) : Asc (insD x out) := by
  rw [insD_eq h]
  refine List.pairwise_append.mpr ⟨h.filter _, List.pairwise_cons.mpr ⟨fun o ho => ?_, h.filter _⟩, fun a ha b hb => ?_⟩
  · have := (List.mem_filter.mp ho).2
    have hn : ¬ kOf o ≤ kOf x := fun z => by rw [leK_iff.mpr z] at this; cases this
    exact leK_iff.mpr (by omega)
  · have h1 := leK_iff.mp (List.mem_filter.mp ha).2
    rcases List.mem_cons.mp hb with z | z
    · rw [z]; exact leK_iff.mpr h1
    · have := (List.mem_filter.mp z).2
      have hn : ¬ kOf b ≤ kOf x := fun z => by rw [leK_iff.mpr z] at this; cases this
      exact leK_iff.mpr (by omega)
theorem leK_total : PySem.W.TotalLe leK := by
  refine ⟨fun a b c h1 h2 => ?_, fun a b => ?_⟩
  · rw [leK_iff] at *; omega
  · rw [leK_iff, leK_iff]; omega
theorem insD_filter {x c : D} {out : List D} (h : Asc out) : (insD x out).filter (PySem.W.sameRank leK c) = out.filter (PySem.W.sameRank leK c) ++ [x].filter (PySem.W.sameRank leK c) := by
  rw [insD_eq h]
  conv => rhs; rw [← asc_split (x := x) h]
  rw [List.filter_append, List.filter_cons, List.filter_append]
  cases e : PySem.W.sameRank leK c x with
  | false => simp [e]
  | true =>
    have hB : (out.filter fun o => !leK o x).filter (PySem.W.sameRank leK c) = [] := List.filter_eq_nil_iff.mpr fun o ho hs => by
      have h1 := (List.mem_filter.mp ho).2
      unfold PySem.W.sameRank at hs e
      rw [Bool.and_eq_true, leK_iff, leK_iff] at hs e
      have : leK o x = true := leK_iff.mpr (by omega)
      rw [this] at h1
      cases h1
    rw [hB]
    simp [e]
theorem insD_fold (l : List D) : l.foldl (fun out x => insD x out) [] = l.mergeSort leK := by
  have key : ∀ (l out : List D), Asc out → Asc (l.foldl (fun out x => insD x out) out) ∧ ∀ c, (l.foldl (fun out x => insD x out) out).filter (PySem.W.sameRank leK c) = (out ++ l).filter (PySem.W.sameRank leK c) := by
    intro l
    induction l with
    | nil => intro out h; exact ⟨h, fun c => by simp⟩
    | cons x l ih =>
      intro out h
      obtain ⟨h1, h2⟩ := ih (insD x out) (insD_asc h)
      refine ⟨h1, fun c => ?_⟩
      rw [List.foldl_cons, h2 c, List.filter_append, insD_filter h, ← List.filter_append, ← List.filter_append]
      simp
  obtain ⟨h1, h2⟩ := key l [] List.Pairwise.nil
  exact PySem.W.sort_unique leK_total h1 (fun c => h2 c)
end Mi
/-! MiEv3: evaluation of enumerate, zip, own calls, frozen returns. -/
namespace Mi
open PySem PySem.Spec PyProof.Rows L2
section
variable {st : Sto} {env : En} {a f : EM} {aa : AM} {tab : List (Nat × Str)} {ds xs ys : List D} {x y d : D} {tb : Tab} {n : Nat}
@[simp] theorem iEnumO_app : iEnumO tab aa env st = (aa env st).bind (kEnumO tab) := rfl
@[simp] theorem kEnumO_lst : kEnumO tab [.lst xs] st = .ok (enumL 0 xs) st := rfl
theorem kEnumO_ins {c : Nat} {fs : Fs} {g : Str} (h1 : tab.lookup c = some g) (h2 : fs.lookup g = some (.lst xs)) : kEnumO tab [.ins c fs] st = .ok (enumL 0 xs) st := by
  unfold kEnumO walkO
  dsimp only
  rw [h1]
  dsimp only
  rw [h2]
@[simp] theorem iZipO_app : iZipO tab aa env st = (aa env st).bind (kZipO tab) := rfl
theorem kZipO_ins {c : Nat} {fs : Fs} {g : Str} (h1 : tab.lookup c = some g) (h2 : fs.lookup g = some (.lst xs)) : kZipO tab [.ins c fs, .lst ys] st = .ok (zipL xs ys) st := by
  unfold kZipO walkO listO2
  dsimp only
  rw [h1]
  dsimp only
  rw [h2]
@[simp] theorem kZipO_lst : kZipO tab [.lst xs, .lst ys] st = .ok (zipL xs ys) st := rfl
@[simp] theorem eCallO_app : eCallO tb n f aa env st = (f env st).bind (kCallA tb n aa env) := rfl
theorem kCallA_ins {c : Nat} {fs : Fs} {g : List D → M D} (h : tb.lookup c = some g) : kCallA tb n aa env (.ins c fs) st = (aa env st).bind (kCallO n g (.ins c fs)) := by
  unfold kCallA
  dsimp only
  rw [h]
@[simp] theorem kCallO_app {g : List D → M D} : kCallO n g x ds st = if ds.length + 1 = n then g (x :: ds) st else .bad := rfl
@[simp] theorem sForX_app {it : XM} {tg : TgM} {body : SM} : sForX it tg body env st = (it env st).go env (kForX tg body env) := rfl
@[simp] theorem kForX_app {tg : TgM} {body : SM} {g : Option (Nat × List D)} : kForX tg body env (g, ds) st = forLoopX g tg body ds env st := rfl
@[simp] theorem forLoopX_none' {tg : TgM} {body : SM} : forLoopX none tg body ds env st = forLoop tg body ds env st := forLoopX_none tg body ds env st
@[simp] theorem iEnumX_app : iEnumX tab aa env st = (aa env st).bind (kEnumX tab) := rfl
@[simp] theorem kEnumX_lst : kEnumX tab [.lst xs] st = .ok (none, enumL 0 xs) st := rfl
@[simp] theorem kEnumX_tup : kEnumX tab [.tup xs] st = .ok (none, enumL 0 xs) st := rfl
theorem kEnumX_cell (h : st[n]? = some (.lst xs)) : kEnumX tab [.cell n] st = .ok (some (n, xs), enumL 0 xs) st := by
  unfold kEnumX walkX
  dsimp only
  rw [h]
/-- a walk over a cell whose body leaves the store -/
theorem forLoopX_keep {tg : TgM} {body : SM} {g : Option (Nat × List D)} (hg : gOk g st) (hk : ∀ env env' st', body env st = .nx env' st' ∨ body env st = .ct env' st' → st' = st) : ∀ ds env, forLoopX g tg body ds env st = forLoop tg body ds env st
  | [], env => by rw [forLoopX, forLoop]; exact cif_pos hg
  | d :: ds, env => by
    rw [forLoopX, cif_pos hg, forLoop]
    cases tg d env with
    | none => rfl
    | some env1 =>
      dsimp only
      cases hb : body env1 st with
      | nx e2 s2 =>
        dsimp only
        rw [hk _ _ _ (.inl hb)]
        exact forLoopX_keep hg hk ds e2
      | ct e2 s2 =>
        dsimp only
        rw [hk _ _ _ (.inr hb)]
        exact forLoopX_keep hg hk ds e2
      | _ => rfl
theorem frzM_ok {m : List D → M D} {st' : Sto} {d' : D} (h : m ds st = .ok d st') (ht : st'.take st.length = st) (hk : st.all noDk = true) (hf : frzD st.length st' d = some d') : frzM m ds st = .ok d' st := by
  unfold frzM
  rw [h]
  dsimp only
  rw [cif_pos ⟨ht, hk⟩, hf]
/-! ### rows told one by one -/
theorem enumL_map (f : Nat → D → D) : ∀ (n : Nat) (l : List D), (enumL n l).length = l.length := fun n l => enumL_len n l
theorem rngC_down (p : Nat) : rngC ((p : Int)) (-1) (p + 1) = .int p :: rngC ((p : Int) - 1) (-1) p := by
  unfold rngC
  rw [List.range_succ_eq_map, List.map_cons, List.map_map]
  congr 1
  apply List.map_congr_left
  intro i _
  simp only [Function.comp]
  congr 1
  push_cast
  omega
theorem rngC_zero (a c : Int) : rngC a c 0 = [] := rfl
end
/-! ### texts as lists of signs -/
def ALL : List Nat := [97, 98, 99, 100, 101, 102]
theorem lit_all : Str.ofString "abcdef" = ⟨ALL.toArray⟩ := by decide +kernel
theorem lit_dash : Str.ofString "-" = ⟨[45].toArray⟩ := by decide +kernel
theorem lit_nil : Str.ofString "" = ⟨[].toArray⟩ := by decide +kernel
theorem comp_signs {i : Nat} {tst : TM} {env : En} {st : Sto} (hi : i < env.length) (p : Nat → Bool) (l : List Nat) (hl : l.length ≤ LIM) (h : ∀ c ∈ l, tst (env.set i (.sh (S [c]))) st = .ok (p c) st) :
    kComp (gN i) tst (eVar i) env (l.map fun c => S [c]) st = .ok ((l.filter p).map fun c => S [c]) st := by
  show compLoop _ _ _ _ _ _ _ = _
  have e := comp_keep (tg := gN i) (tst := tst) (elt := eVar i) (env := env) (st := st) (fun d => match d with | .str z => (match z.cps.toList with | [c] => p c | _ => false) | _ => false) id (l.map fun c => S [c]) [] (by simpa using hl) (by
    intro d hd
    obtain ⟨c, hc, rfl⟩ := List.mem_map.mp hd
    refine ⟨_, rfl, h c hc, fun _ => ?_⟩
    simp [List.getElem?_set_self hi])
  rw [e, List.nil_append, List.map_id]
  rw [List.filter_map]
  rfl
theorem comp_map {i : Nat} {elt : EM} {env : En} {st : Sto} (g : Nat → D) (l : List Nat) (hl : l.length ≤ LIM) (h : ∀ c ∈ l, elt (env.set i (.sh (S [c]))) st = .ok (g c) st) :
    kComp (gN i) tYesM elt env (l.map fun c => S [c]) st = .ok (l.map g) st := by
  show compLoop _ _ _ _ _ _ _ = _
  have e := comp_keep (tg := gN i) (tst := tYesM) (elt := elt) (env := env) (st := st) (fun _ => true) (fun d => match d with | .str z => (match z.cps.toList with | [c] => g c | _ => .non) | _ => .non) (l.map fun c => S [c]) [] (by simpa using hl) (by
    intro d hd
    obtain ⟨c, hc, rfl⟩ := List.mem_map.mp hd
    exact ⟨_, rfl, rfl, fun _ => h c hc⟩)
  rw [e, List.nil_append, List.filter_eq_self.mpr (fun _ _ => rfl), List.map_map]
  rfl
theorem joinL_one : ∀ l : List Nat, TL.joinL [] (l.map fun c => [c]) = l
  | [] => rfl
  | [c] => rfl
  | c :: d :: r => by
    have := joinL_one (d :: r)
    simp only [List.map_cons] at this ⊢
    rw [TL.joinL, this]
    rfl
theorem join_one (l : List Nat) : PySem.Txt.join ⟨[].toArray⟩ (l.map fun c => (⟨#[c]⟩ : Str)) = ⟨l.toArray⟩ := by
  have e := SX.join_S [] (l.map fun c => [c])
  rw [joinL_one, List.map_map] at e
  exact e
theorem sum_one : ∀ l : List Nat, ((l.map fun c => (⟨#[c]⟩ : Str)).map (·.length)).sum = l.length
  | [] => rfl
  | c :: l => by
    rw [List.map_cons, List.map_cons, List.sum_cons, sum_one l, List.length_cons]
    show 1 + _ = _
    omega
theorem joinD_one {st : Sto} (l : List Nat) (hl : l.length ≤ LIM) : joinD (.str ⟨[].toArray⟩) [.lst (l.map fun c => S [c])] st = .ok (S l) st := by
  unfold joinD
  simp only [seqOf_lst, strsOf_map, join_one, sum_one]
  rw [if_pos]
  show _ + _ * 0 ≤ _
  simpa using hl
theorem blsOf_map (f : Nat → Bool) : ∀ l : List Nat, blsOf (l.map fun c => D.bl (f c)) = some (l.map f)
  | [] => rfl
  | c :: l => by
    rw [List.map_cons, blsOf, blsOf_map f l]
    rfl
theorem allD_map {st : Sto} (f : Nat → Bool) (l : List Nat) : allD true [.lst (l.map fun c => D.bl (f c))] st = .ok (.bl (l.all f)) st := by
  unfold allD
  simp only [seqOf_lst, blsOf_map]
  simp
theorem inX_str {tab : Tab} {t : D → M Bool} {st : Sto} {c : Nat} {l : List Nat} : inX tab t false (S [c]) (S l) st = .ok (.bl (decide (c ∈ l))) st := by
  rw [← subS_one]
  rfl
/-- a part of a list in its order, found again -/
theorem sub_filter {α : Type} [DecidableEq α] : ∀ {l m : List α}, l.Sublist m → m.Nodup → m.filter (fun c => decide (c ∈ l)) = l
  | _, _, .slnil, _ => rfl
  | _, _, .cons a (l₁ := l) (l₂ := m) h, nd => by
    obtain ⟨n1, n2⟩ := List.nodup_cons.mp nd
    rw [List.filter_cons_of_neg (by simpa using fun z => n1 (h.subset z)), sub_filter h n2]
  | _, _, .cons₂ a (l₁ := l) (l₂ := m) h, nd => by
    obtain ⟨n1, n2⟩ := List.nodup_cons.mp nd
    rw [List.filter_cons_of_pos (by simp)]
    congr 1
    rw [← sub_filter h n2]
    apply List.filter_congr
    intro x hx
    have : x ≠ a := fun z => n1 (z ▸ hx)
    simp [this, sub_filter h n2]
end Mi
/-! MiEv4: evaluation of the text forms: f-strings, a, *b = .., x[::2], X.get, keyword calls; texts and lists of texts compared; words. -/
namespace Mi
open PySem PySem.Spec PyProof.Rows L2
section
variable {st : Sto} {env : En} {a b : EM} {aa ka : AM} {ds es xs : List D} {x y d : D} {tab : Tab}
@[simp] theorem eFmt_app : eFmt a env st = (a env st).bind fmtD := rfl
@[simp] theorem fmtD_str {z : Str} : fmtD (.str z) st = if z.length ≤ LIM then .ok (.str z) st else .bad := rfl
@[simp] theorem eJs_app {ms : List EM} : eJs ms env st = jsM env ms Str.empty st := rfl
@[simp] theorem jsM_nil {z : Str} : jsM env [] z st = .ok (.str z) st := rfl
@[simp] theorem jsM_cons {m : EM} {ms : List EM} {z : Str} : jsM env (m :: ms) z st = (m env st).bind (kJs (jsM env ms) z) := rfl
@[simp] theorem kJs_str {k : Str → M D} {z y : Str} : kJs k z (.str y) st = if (z ++ y).length ≤ LIM then k (z ++ y) st else .bad := rfl
@[simp] theorem sUnpS_app {m1 m2 : TgM} : sUnpS m1 m2 a env st = (a env st).go env (kUnpS m1 m2 env) := rfl
@[simp] theorem kUnpS_lst {m1 m2 : TgM} : kUnpS m1 m2 env (.lst (y :: ds)) st = unpR (gTs [m1, m2] [y, .lst ds] env) st := by
  unfold kUnpS unpR
  first
  | (dsimp only; done)
  | (dsimp only; cases gTs [m1, m2] [y, .lst ds] env <;> rfl)
@[simp] theorem ev2D_lst {o : Nat} : ev2D o (.lst ds) st = .ok (.lst (every2 (ds.drop o))) st := rfl
@[simp] theorem eKGet_app {tb : List (Str × D)} : eKGet tb a b env st = (a env st).bind (kKget1 tb b env) := rfl
@[simp] theorem kKget1_app {tb : List (Str × D)} : kKget1 tb b env y st = (b env st).bind (kKget2 tb y) := rfl
@[simp] theorem kKget2_str {tb : List (Str × D)} {z : Str} : kKget2 tb (.str z) d st = .ok ((tb.lookup z).getD d) st := rfl
@[simp] theorem eCallK_app {g : List D → List D → M D} : eCallK g aa ka env st = (aa env st).bind (kKa g ka env) := rfl
@[simp] theorem kKa_app {g : List D → List D → M D} : kKa g ka env ds st = (ka env st).bind (kKs g ds) := rfl
@[simp] theorem kKs_app {g : List D → List D → M D} : kKs g ds es st = g ds es st := rfl
theorem mCallKs_app {j i n : Nat} {spec : List (Bool × Nat)} {dds : List D} {m : List D → M D} : mCallKs j i n spec dds m ds es st = if (ds.length = j ∧ es.length = i) ∧ (ds ++ pickL spec es dds).length = n then m (ds ++ pickL spec es dds) st else .bad := rfl
theorem every2_cons {α : Type} (x : α) : ∀ l : List α, every2 (x :: l) = x :: every2 (l.drop 1)
  | [] => rfl
  | _ :: _ => rfl
end
/-! ### texts as lists of signs -/
theorem Str_app (a b : List Nat) : (⟨a.toArray⟩ : Str) ++ (⟨b.toArray⟩ : Str) = ⟨(a ++ b).toArray⟩ := by
  show Str.append _ _ = _
  simp [Str.append]
theorem Str_inj {a b : List Nat} : ((⟨a.toArray⟩ : Str) = ⟨b.toArray⟩) = (a = b) := by
  apply propext
  constructor
  · intro h
    have := congrArg (fun z : Str => z.cps.toList) h
    simpa using this
  · rintro rfl; rfl
theorem Str_empty : Str.empty = ⟨([] : List Nat).toArray⟩ := rfl
def Ok (l : List Nat) : Prop := ∀ c ∈ l, c < 0x110000
theorem Ok.nil : Ok [] := fun _ h => by simp at h
theorem Ok.append {a b : List Nat} (h : Ok a) (k : Ok b) : Ok (a ++ b) := fun c hc => (List.mem_append.mp hc).elim (h c) (k c)
section
variable {st : Sto} {tab : Tab} {nf : Nat → Tag → Bool} {t : D → M Bool}
theorem eqv_str (a b : List Nat) : PyData.eqv (.str ⟨a.toArray⟩) (.str ⟨b.toArray⟩) = decide (a = b) := by
  show ((⟨a.toArray⟩ : Str) == ⟨b.toArray⟩) = _
  by_cases h : a = b
  · subst h; simp
  · have : ¬ ((⟨a.toArray⟩ : Str) = ⟨b.toArray⟩) := by rw [Str_inj]; exact h
    simp [h]
theorem dats_S : ∀ {ls : List (List Nat)}, (∀ l ∈ ls, Ok l) → Dats (ls.map S) (ls.map fun l => PyData.str ⟨l.toArray⟩)
  | [], _ => .nil
  | l :: ls, h => .cons (.S l (h l (List.mem_cons_self ..))) (dats_S fun x hx => h x (List.mem_cons_of_mem _ hx))
theorem depth_S : ∀ ls : List (List Nat), PyData.depthAll (ls.map fun l => PyData.str ⟨l.toArray⟩) = 0
  | [] => rfl
  | _ :: r => by simp [PyData.depthAll, PyData.depth, depth_S r]
theorem eqv_Ss : ∀ a b : List (List Nat), PyData.eqvAll (a.map fun l => PyData.str ⟨l.toArray⟩) (b.map fun l => PyData.str ⟨l.toArray⟩) = decide (a = b)
  | [], [] => by simp [PyData.eqvAll]
  | [], _ :: _ => by simp [PyData.eqvAll]
  | _ :: _, [] => by simp [PyData.eqvAll]
  | a :: r, b :: t => by
    simp only [List.map_cons, PyData.eqvAll, eqv_Ss r t, eqv_str]
    by_cases h : a = b <;> by_cases h' : r = t <;> simp [h, h']
theorem eqD_Ss {a b : List (List Nat)} (ha : ∀ l ∈ a, Ok l) (hb : ∀ l ∈ b, Ok l) : eqD tab nf (.lst (a.map S)) (.lst (b.map S)) st = .ok (.bl (decide (a = b))) st := by
  rw [eqD_dats (dats_S ha) (by rw [depth_S]; decide) (dats_S hb) (by rw [depth_S]; decide), eqv_Ss]
theorem neD_Ss {a b : List (List Nat)} (ha : ∀ l ∈ a, Ok l) (hb : ∀ l ∈ b, Ok l) : neD (.lst (a.map S)) (.lst (b.map S)) st = .ok (.bl (!decide (a = b))) st := by
  rw [neD_dats (dats_S ha) (by rw [depth_S]; decide) (dats_S hb) (by rw [depth_S]; decide), eqv_Ss]
theorem any_Ss (x : List Nat) : ∀ ls : List (List Nat), ((ls.map fun l => PyData.str ⟨l.toArray⟩).any fun z => PyData.eqv z (.str ⟨x.toArray⟩)) = decide (x ∈ ls)
  | [] => by simp
  | l :: ls => by
    rw [List.map_cons, List.any_cons, any_Ss x ls, eqv_str]
    by_cases h : l = x
    · simp [h]
    · have h2 : ¬ x = l := fun z => h z.symm
      simp [h, h2]
theorem inX_Ss {neg : Bool} {x : List Nat} {ls : List (List Nat)} (hx : Ok x) (hl : ∀ l ∈ ls, Ok l) : inX tab t neg (S x) (.lst (ls.map S)) st = .ok (.bl (if neg then !decide (x ∈ ls) else decide (x ∈ ls))) st := by
  obtain ⟨h1, h2⟩ := dats_S hl
  obtain ⟨h3, h4⟩ := Dat.S x hx
  show inL neg (S x) (.lst (ls.map S)) st = _
  have s1 : SeqAt.shaped (.str ⟨x.toArray⟩) = true := by
    unfold SeqAt.shaped
    rw [Bool.and_eq_true]
    exact ⟨h4, by simp [PyData.depth]⟩
  have s2 := shaped_list h2 (by rw [depth_S]; decide)
  have e1 : pdT (S x) st = some (.str ⟨x.toArray⟩) := h3
  unfold inL
  rw [e1, pdT_lst h1]
  dsimp only
  rw [if_pos ⟨s1, s2⟩, any_Ss]
theorem inX_tS {neg : Bool} {x : List Nat} {ls : List (List Nat)} : inX tab t neg (S x) (.tup (ls.map S)) st = .ok (.bl (if neg then !decide (x ∈ ls) else decide (x ∈ ls))) st := by
  have e : ∀ ls : List (List Nat), ((ls.map S).any fun z => feq z (S x)) = decide (x ∈ ls) := by
    intro ls
    induction ls with
    | nil => simp
    | cons l ls ih =>
      rw [List.map_cons, List.any_cons, ih]
      have : feq (S l) (S x) = decide (l = x) := eqv_str l x
      rw [this]
      by_cases h : l = x
      · simp [h]
      · have h2 : ¬ x = l := fun z => h z.symm
        simp [h, h2]
  have f : (ls.map S).all flatD = true := List.all_eq_true.mpr fun d hd => by
    obtain ⟨l, _, rfl⟩ := List.mem_map.mp hd
    rfl
  show inS neg (S x) (.tup (ls.map S)) st = _
  unfold inS
  dsimp only
  rw [if_pos ⟨rfl, f⟩, e]
theorem leSt_S {a b : List Nat} : leSt (S a) (S b) st = .ok (.bl (!decide (b < a))) st := by
  unfold leSt
  dsimp only
/-! ### words -/
/-- the words of a text, cut at every blank -/
def wds (l : List Nat) : List (List Nat) := (Txt.split ⟨l.toArray⟩ " ").map fun z => z.cps.toList
/-- words joined by blanks -/
def jn : List (List Nat) → List Nat
  | [] => []
  | [w] => w
  | w :: ws => w ++ 32 :: jn ws
theorem blank : (" " : Str) = ⟨#[32]⟩ := by decide +kernel
theorem jn_S : ∀ ws : List Str, (Str.join ⟨#[32]⟩ ws).cps.toList = jn (ws.map fun z => z.cps.toList)
  | [] => rfl
  | [w] => rfl
  | w :: v :: ws => by
    have ih := jn_S (v :: ws)
    show (w ++ (⟨#[32]⟩ : Str) ++ Str.join ⟨#[32]⟩ (v :: ws)).cps.toList = _
    simp only [Str.cps_append, Array.toList_append, ih]
    simp [jn]
theorem jn_wds (l : List Nat) : jn (wds l) = l := by
  unfold wds
  rw [blank, ← jn_S, StrLaws.join_split]
theorem wds_free (l : List Nat) : ∀ w ∈ wds l, 32 ∉ w := fun w hw => by
  obtain ⟨z, hz, rfl⟩ := List.mem_map.mp hw
  rw [blank] at hz
  exact StrLaws.split_free _ 32 z hz
theorem wds_ne (l : List Nat) : wds l ≠ [] := fun h => by
  have e := split_pos ⟨l.toArray⟩ " "
  have := congrArg List.length h
  unfold wds at this
  rw [List.length_map] at this
  simp only [List.length_nil] at this
  omega
theorem wds_len (l : List Nat) : (wds l).length ≤ l.length + 2 := by
  have e := split_le ⟨l.toArray⟩ " "
  unfold wds
  rw [List.length_map]
  rw [S_len] at e
  exact e
theorem jn_cons {w : List Nat} {ws : List (List Nat)} (h : ws ≠ []) : jn (w :: ws) = w ++ 32 :: jn ws := by
  cases ws with
  | nil => exact absurd rfl h
  | cons => rfl
theorem app_free {a b x y : List Nat} (ha : 32 ∉ a) (hb : 32 ∉ b) (h : a ++ 32 :: x = b ++ 32 :: y) : a = b ∧ x = y := by
  induction a generalizing b with
  | nil =>
    cases b with
    | nil => simpa using h
    | cons c b =>
      rw [List.nil_append, List.cons_append] at h
      injection h with h1 _
      exact absurd (by simp [h1]) hb
  | cons c a ih =>
    cases b with
    | nil =>
      rw [List.nil_append, List.cons_append] at h
      injection h with h1 _
      exact absurd (by simp [h1]) ha
    | cons e b =>
      rw [List.cons_append, List.cons_append] at h
      injection h with h1 h2
      obtain ⟨e1, e2⟩ := ih (fun z => ha (List.mem_cons_of_mem _ z)) (fun z => hb (List.mem_cons_of_mem _ z)) h2
      exact ⟨by rw [h1, e1], e2⟩
theorem jn_inj : ∀ {a b : List (List Nat)}, a ≠ [] → b ≠ [] → (∀ w ∈ a, 32 ∉ w) → (∀ w ∈ b, 32 ∉ w) → jn a = jn b → a = b
  | [], _, h, _, _, _, _ => absurd rfl h
  | _, [], _, h, _, _, _ => absurd rfl h
  | [w], [v], _, _, _, _, h => by rw [show w = v from h]
  | [w], v :: x :: b, _, _, hw, _, h => by
    have hw' := hw w (List.mem_cons_self ..)
    rw [show jn [w] = w from rfl, jn_cons (by simp)] at h
    exact absurd (by rw [h]; simp) hw'
  | w :: x :: a, [v], _, _, _, hv, h => by
    have hv' := hv v (List.mem_cons_self ..)
    rw [show jn [v] = v from rfl, jn_cons (by simp)] at h
    exact absurd (by rw [← h]; simp) hv'
  | w :: x :: a, v :: y :: b, _, _, hw, hv, h => by
    rw [jn_cons (w := w) (ws := x :: a) (by simp), jn_cons (w := v) (ws := y :: b) (by simp)] at h
    obtain ⟨e1, e2⟩ := app_free (hw w (List.mem_cons_self ..)) (hv v (List.mem_cons_self ..)) h
    rw [e1, jn_inj (by simp) (by simp) (fun z hz => hw z (List.mem_cons_of_mem _ hz)) (fun z hz => hv z (List.mem_cons_of_mem _ hz)) e2]
theorem wds_jn {ws : List (List Nat)} (h : ws ≠ []) (k : ∀ w ∈ ws, 32 ∉ w) : wds (jn ws) = ws := jn_inj (wds_ne _) h (wds_free _) k (jn_wds _)
theorem mem_jn {c : Nat} : ∀ {ws : List (List Nat)} {w : List Nat}, w ∈ ws → c ∈ w → c ∈ jn ws
  | [], _, h, _ => by simp at h
  | [v], w, h, k => by rw [List.mem_singleton.mp h] at k; exact k
  | v :: x :: ws, w, h, k => by
    rw [jn_cons (by simp)]
    rcases List.mem_cons.mp h with z | z
    · rw [z] at k; exact List.mem_append_left _ k
    · exact List.mem_append_right _ (List.mem_cons_of_mem _ (mem_jn z k))
theorem wds_ok {l : List Nat} (h : Ok l) : ∀ w ∈ wds l, Ok w := fun w hw c hc => h c (by
  have := mem_jn hw hc
  rwa [jn_wds] at this)
theorem splitD_wds {l : List Nat} (h : l.length ≤ 1000) : splitD (S l) [.str " "] st = .ok (.lst ((wds l).map S)) st := by
  have e : (Txt.split ⟨l.toArray⟩ " ").map D.str = (wds l).map S := by
    unfold wds
    rw [List.map_map]
    rfl
  unfold splitD
  dsimp only
  rw [if_pos ⟨by decide +kernel, by rw [S_len]; simp only [LIM]; omega⟩, e]
end
end Mi
namespace W19
open PySem PySem.Spec PyProof.Rows L2 ClX ItX Mi
/-! ### the pool -/
abbrev plc (L : List Int) (i : Nat) (b c e : Int) : Cl := .lst [.lst (L.map D.int), .int i, .int b, .int c, .int e]
def Pool (st s : Sto) : Prop := ∃ (L : List Int) (i : Nat) (b c e : Int), st = plc L i b c e :: s ∧ L.length ≤ 63 ∧ i ≤ L.length ∧ 0 ≤ b ∧ 0 ≤ c ∧ 0 ≤ e ∧ e < 1009
theorem fmod_in (a : Int) {n : Int} (h : 0 < n) : 0 ≤ a.fmod n ∧ a.fmod n < n := by
  rw [Int.fmod_eq_emod_of_nonneg _ (by omega)]
  exact ⟨Int.emod_nonneg _ (by omega), Int.emod_lt_of_pos _ h⟩
theorem mulA {st : Sto} {k : Int} (j : Int) (h : 0 ≤ k ∧ k < 1009) : mulL (.int k) (.int j) st = .ok (.int (k * j)) st := mulL_ok (.inl (by omega))
theorem setAt {L : List D} {k : Nat} {env : En} {d : D} {s : Sto} (h : k < L.length) : setC env d 0 (k : Int) (some (.lst L)) (.lst L :: s) = .nx env (.lst (L.set k d) :: s) := by
  rw [setC_some (ixN_nat h)]
  rfl
theorem set1 {env : En} {d : D} {x0 x1 x2 x3 x4 : D} {s : Sto} : setC env d 0 1 (some (.lst [x0, x1, x2, x3, x4])) (.lst [x0, x1, x2, x3, x4] :: s) = .nx env (.lst [x0, d, x2, x3, x4] :: s) := setAt (k := 1) (by simp)
theorem set2 {env : En} {d : D} {x0 x1 x2 x3 x4 : D} {s : Sto} : setC env d 0 2 (some (.lst [x0, x1, x2, x3, x4])) (.lst [x0, x1, x2, x3, x4] :: s) = .nx env (.lst [x0, x1, d, x3, x4] :: s) := setAt (k := 2) (by simp)
theorem set3 {env : En} {d : D} {x0 x1 x2 x3 x4 : D} {s : Sto} : setC env d 0 3 (some (.lst [x0, x1, x2, x3, x4])) (.lst [x0, x1, x2, x3, x4] :: s) = .nx env (.lst [x0, x1, x2, d, x4] :: s) := setAt (k := 3) (by simp)
theorem draw_eq {st s : Sto} (P : Pool st s) {n : Int} (h1 : 0 < n) (h2 : n < 2 ^ 250) : ∃ k st', m_law_draw [.cell 0, .int n] st = .ok (.int k) st' ∧ 0 ≤ k ∧ k < n ∧ Pool st' s := by
  obtain ⟨L, i, b, c, e, rfl, hL, hi, hb, hc, he, he'⟩ := P
  have hn : n ≠ 0 := by omega
  have dv : ∀ (x : Int) (st : Sto), fdvL (.int x) (.int n) st = .ok (.int (x / n)) st := fun x st => fdvL_ok ⟨h1, h2⟩
  have mu := fun (j : Int) (st : Sto) => mulA (st := st) (k := e) j ⟨he, he'⟩
  have mm := fun (x : Int) (st : Sto) => mulA (st := st) (k := x.fmod 1009) (x.fmod 1009) (fmod_in x (by decide))
  by_cases hb0 : b = 0
  · subst hb0
    by_cases hil : i < L.length
    · have hc1 : ((i : Int) < (L.length : Int)) := by omega
      have hat : L[i]? = some L[i] := List.getElem?_eq_getElem hil
      by_cases hx : L[i] < 1000000000000000000
      · refine ⟨(L[i]).fmod n, plc L (i + 1) 0 c e :: s, ?_, (fmod_in _ h1).1, (fmod_in _ h1).2, L, i + 1, 0, c, e, rfl, hL, by omega, by omega, hc, he, he'⟩
        simp [LIM, m_law_draw, runBody_app, b_law_draw, env0, hc1, set1, hat, hx, hn]
      · have hx0 : 0 < L[i] := by omega
        refine ⟨(L[i]).fmod n, plc L (i + 1) (L[i] / n) c e :: s, ?_, (fmod_in _ h1).1, (fmod_in _ h1).2, L, i + 1, L[i] / n, c, e, rfl, hL, by omega, Int.ediv_nonneg (by omega) (by omega), hc, he, he'⟩
        simp [LIM, m_law_draw, runBody_app, b_law_draw, env0, hc1, set1, set2, hat, hx, hn, hx0, dv]
    · have hc1 : ¬ ((i : Int) < (L.length : Int)) := by omega
      refine ⟨_, plc L i 0 (c + 1) e :: s, ?_, (fmod_in (((e * (c + 1 + 16)).fmod 1009 * (e * (c + 1 + 16)).fmod 1009 + e * (c + 1)).fmod 997) h1).1, (fmod_in _ h1).2, L, i, 0, c + 1, e, rfl, hL, hi, by omega, by omega, he, he'⟩
      simp [LIM, m_law_draw, runBody_app, b_law_draw, env0, hc1, set3, hn, mu, mm]
  · have hbp : 0 < b := by omega
    refine ⟨b.fmod n, plc L i (b / n) c e :: s, ?_, (fmod_in _ h1).1, (fmod_in _ h1).2, L, i, b / n, c, e, rfl, hL, hi, Int.ediv_nonneg hb (by omega), hc, he, he'⟩
    simp [LIM, m_law_draw, runBody_app, b_law_draw, env0, hb0, hbp, set2, hn, dv]
end W19
namespace W19
open PySem PySem.Spec PyProof.Rows L2 ClX ItX Mi
def am : Option Int → D
  | none => .non
  | some k => .int k
section
variable {st s : Sto}
/-! ### what is drawn -/
theorem pick_eq {L : List D} (hl : 0 < L.length) (h2 : L.length ≤ 1000) (P : Pool st s) : ∃ d ∈ L, ∃ st', m_law_pick [.cell 0, .lst L] st = .ok d st' ∧ Pool st' s := by
  obtain ⟨k, st1, e, a, b, P1⟩ := draw_eq P (n := L.length) (by omega) (by omega)
  obtain ⟨j, rfl⟩ := Int.eq_ofNat_of_zero_le a
  have hj : j < L.length := by omega
  refine ⟨L[j], List.getElem_mem hj, st1, ?_, P1⟩
  simp [LIM, m_law_pick, runBody_app, b_law_pick, env0, e, List.getElem?_eq_getElem hj]
end
/-! ### steps -/
inductive Way | down | up | na | nb
def Way.s : Way → Str
  | .down => "down"
  | .up => "up"
  | .na => "near_above"
  | .nb => "near_below"
def haltL (l : List Nat) : List Nat := if l = [] then [45] else l
abbrev stepD (w : Way) (lim : Option Int) (l : List Nat) : D := .tup [.str w.s, am lim, S (haltL l)]
abbrev dropD : D := .tup [.str "drop", .non, .str "-"]
def LimOk : Option Int → Prop
  | none => True
  | some k => 1 ≤ k ∧ k ≤ 6
def StepOk (x : D) : Prop := x = dropD ∨ ∃ w lim l, x = stepD w lim l ∧ LimOk lim ∧ l.Sublist ALL
theorem way_ne {w : Way} : ¬ (w.s = Str.ofString "drop") := by cases w <;> decide +kernel
def selF : Int → List Nat → List Nat
  | _, [] => []
  | b, c :: cs => (if b.fmod 2 = 1 then [c] else []) ++ selF (b / 2) cs
theorem selF_sub : ∀ (b : Int) (cs : List Nat), (selF b cs).Sublist cs
  | _, [] => .slnil
  | b, c :: cs => by
    have := selF_sub (b / 2) cs
    unfold selF
    split
    · exact .cons₂ c this
    · exact .cons c this
section
variable {st s : Sto}
noncomputable def bodyL : SM := (sSeq (sIf (tVal tru0 (eOp eq1 (eOp opMod (eCall intD (aCons (eVar 0) aNil)) (eC (.int 2))) (eC (.int 1)))) (sSet 1 (eOp addL (eVar 1) (eVar 2))) sNil)
  (sSet 0 (eOp fdvL (eVar 0) (eC (.int 2)))))
theorem S_add {l : List Nat} {c : Nat} (h : l.length < 1000) : addL (S l) (S [c]) st = .ok (S (l ++ [c])) st := by
  have e : (⟨l.toArray⟩ : Str) ++ (⟨[c].toArray⟩ : Str) = ⟨(l ++ [c]).toArray⟩ := by
    show Str.append _ _ = _
    simp [Str.append]
  rw [addL_str, if_pos (by rw [S_len, S_len]; simp only [LIM, List.length_singleton]; omega), e]
theorem let_loop : ∀ (cs : List Nat) (b : Int) (l : List Nat) (x2 : Slot), l.length + cs.length ≤ 100 → ∃ b' x2', forLoop (gN 2) bodyL (cs.map fun c => S [c]) [.sh (.int b), .sh (S l), x2] st = .nx [.sh (.int b'), .sh (S (l ++ selF b cs)), x2'] st
  | [], b, l, x2, _ => ⟨b, x2, by simp [selF, forLoop]⟩
  | c :: cs, b, l, x2, hl => by
    rw [List.length_cons] at hl
    have dv : ∀ st, fdvL (.int b) (.int 2) st = .ok (.int (b / 2)) st := fun st => fdvL_ok ⟨by decide, by decide⟩
    by_cases hb : b.fmod 2 = 1
    · obtain ⟨b', x2', e⟩ := let_loop cs (b / 2) (l ++ [c]) (.sh (S [c])) (by rw [List.length_append, List.length_singleton]; omega)
      refine ⟨b', x2', ?_⟩
      rw [selF, if_pos hb, ← List.append_assoc, ← e]
      have ea := fun st => S_add (st := st) (l := l) (c := c) (by omega)
      simp [forLoop_cons, bodyL, hb, ↓ea, dv]
    · obtain ⟨b', x2', e⟩ := let_loop cs (b / 2) l (.sh (S [c])) (by omega)
      refine ⟨b', x2', ?_⟩
      rw [selF, if_neg hb, List.nil_append, ← e]
      simp [forLoop_cons, bodyL, hb, dv]
theorem S_ne {l : List Nat} : ((⟨l.toArray⟩ : Str) = ⟨[].toArray⟩) = (l = []) := by
  apply propext
  constructor
  · intro h
    have := congrArg (fun z : Str => z.cps.toList) h
    simpa using this
  · rintro rfl; rfl
theorem letters_eq {b : Int} : ∃ l, l.Sublist ALL ∧ m_law_letters [.int b] st = .ok (S (haltL l)) st := by
  obtain ⟨b', x2', e⟩ := let_loop (st := st) ALL b [] .no (by decide)
  refine ⟨selF b ALL, selF_sub b ALL, ?_⟩
  have hb : b_law_letters = sSeq (sSet 1 (eC (.str ""))) (sSeq (sFor (iVal (eC (.str "abcdef"))) (gN 2) bodyL) (sSeq (sIf (tVal tru0 (eOp eq1 (eVar 1) (eC (.str "")))) (sRet (eC (.str "-"))) sNil) (sRet (eVar 1)))) := rfl
  rw [List.nil_append] at e
  by_cases h : selF b ALL = []
  · rw [h] at e ⊢
    simp [m_law_letters, runBody_app, hb, env0, lit_all, lit_nil, lit_dash, signs_S, ↓e, haltL]
  · have h' : ¬ ((⟨(selF b ALL).toArray⟩ : Str) = ⟨[].toArray⟩) := by rw [S_ne]; exact h
    simp [m_law_letters, runBody_app, hb, env0, lit_all, lit_nil, signs_S, ↓e, haltL, h, h']
theorem good_eq (P : Pool st s) : ∃ x st', m_law_good [.cell 0] st = .ok x st' ∧ StepOk x ∧ Pool st' s := by
  obtain ⟨d, hd, st1, e1, P1⟩ := pick_eq (L := [.str "near_above", .str "down", .str "up", .str "near_below", .str "drop"]) (by decide) (by decide) P
  have hw : d = .str "drop" ∨ ∃ w : Way, d = .str w.s := by
    simp only [List.mem_cons, List.not_mem_nil, or_false] at hd
    rcases hd with rfl | rfl | rfl | rfl | rfl
    · exact .inr ⟨.na, rfl⟩
    · exact .inr ⟨.down, rfl⟩
    · exact .inr ⟨.up, rfl⟩
    · exact .inr ⟨.nb, rfl⟩
    · exact .inl rfl
  rcases hw with rfl | ⟨w, rfl⟩
  · exact ⟨dropD, st1, by simp [LIM, m_law_good, runBody_app, b_law_good, env0, ↓e1], .inl rfl, P1⟩
  · obtain ⟨d2, hd2, st2, e2, P2⟩ := pick_eq (L := [.int 2, .non, .int 1, .int 3, .int 4, .int 5, .int 6]) (by decide) (by decide) P1
    have hl : ∃ lim, d2 = am lim ∧ LimOk lim := by
      simp only [List.mem_cons, List.not_mem_nil, or_false] at hd2
      rcases hd2 with rfl | rfl | rfl | rfl | rfl | rfl | rfl
      · exact ⟨some 2, rfl, by decide, by decide⟩
      · exact ⟨none, rfl, trivial⟩
      · exact ⟨some 1, rfl, by decide, by decide⟩
      · exact ⟨some 3, rfl, by decide, by decide⟩
      · exact ⟨some 4, rfl, by decide, by decide⟩
      · exact ⟨some 5, rfl, by decide, by decide⟩
      · exact ⟨some 6, rfl, by decide, by decide⟩
    obtain ⟨lim, rfl, hlim⟩ := hl
    obtain ⟨k, st3, e3, _, _, P3⟩ := draw_eq P2 (n := 64) (by decide) (by decide)
    obtain ⟨l, hl, e4⟩ := letters_eq (st := st3) (b := (k + 6).fmod 64)
    refine ⟨stepD w lim l, st3, ?_, .inr ⟨w, lim, l, rfl, hlim, hl⟩, P3⟩
    simp [LIM, m_law_good, runBody_app, b_law_good, env0, ↓e1, ↓e2, e3, e4, way_ne]
/-! ### the pool made -/
theorem pool_eq {ns : List Int} (h : ns.length ≤ 63) : ∃ st, m_law_pool [.fix (ns.map D.int)] [] = .ok (.cell 0) st ∧ Pool st [] := by
  obtain ⟨env', st', e, k, x2, rfl, rfl, k0, k1, _⟩ := for_inv (tg := gN 2) (ma := sSet 1 (eOp opMod (eCall intD (aCons (eOp addL (eOp addL (eOp mulL (eVar 1) (eC (.int 31))) (eVar 2)) (eC (.int 1))) aNil)) (eC (.int 1009)))) (fun ds env st => ∃ (k : Int) (x2 : Slot), env = [.sh (.fix (ns.map D.int)), .sh (.int k), x2] ∧ st = [] ∧ 0 ≤ k ∧ k < 1009 ∧ ∀ d ∈ ds, ∃ j, d = .int j) (ns.map D.int) [.sh (.fix (ns.map D.int)), .sh (.int 0), .no] [] ⟨0, .no, rfl, rfl, by decide, by decide, fun d hd => by
      obtain ⟨j, _, rfl⟩ := List.mem_map.mp hd
      exact ⟨j, rfl⟩⟩ (fun d ds env st h => by
    obtain ⟨k, x2, rfl, rfl, k0, k1, hi⟩ := h
    obtain ⟨j, rfl⟩ := hi d (List.mem_cons_self ..)
    have mu := mulA (st := []) (k := k) 31 ⟨k0, k1⟩
    refine ⟨_, rfl, _, [], .inl ?_, (k * 31 + j + 1).fmod 1009, .sh (.int j), rfl, rfl, (fmod_in _ (by decide)).1, (fmod_in _ (by decide)).2, fun d hd => hi d (List.mem_cons_of_mem _ hd)⟩
    simp [mu])
  have c1 : ∀ x2, kComp (gN 2) tYesM (eCall absD (aCons (eVar 2) aNil)) [.sh (.fix (ns.map D.int)), .sh (.int k), x2] (ns.map D.int) [] = .ok ((ns.map fun j => (if j < 0 then -j else j)).map D.int) [] := fun x2 => by
    have := comp_keep (tg := gN 2) (tst := tYesM) (elt := eCall absD (aCons (eVar 2) aNil)) (env := [.sh (.fix (ns.map D.int)), .sh (.int k), x2]) (st := []) (fun _ => true) (fun d => match d with | .int j => .int (if j < 0 then -j else j) | d => d) (ns.map D.int) [] (by simp only [List.length_nil, List.length_map, LIM]; omega) (fun d hd => by
      obtain ⟨j, _, rfl⟩ := List.mem_map.mp hd
      exact ⟨_, rfl, rfl, fun _ => by simp⟩)
    unfold kComp
    rw [this, List.filter_eq_self.mpr (fun _ _ => rfl), List.nil_append, List.map_map, List.map_map]
    rfl
  have hb : b_law_pool = sSeq (sSet 1 (eC (.int 0))) (sSeq (sFor (iVal (eVar 0)) (gN 2) (sSet 1 (eOp opMod (eCall intD (aCons (eOp addL (eOp addL (eOp mulL (eVar 1) (eC (.int 31))) (eVar 2)) (eC (.int 1))) aNil)) (eC (.int 1009))))) (sRet (eCel (lLst (aCons (eL (lComp (iVal (eVar 0)) (gN 2) tYesM (eCall absD (aCons (eVar 2) aNil)) [2])) (aCons (eC (.int 0)) (aCons (eC (.int 0)) (aCons (eC (.int 0)) (aCons (eVar 1) aNil))))))))) := rfl
  refine ⟨[plc (ns.map fun j => (if j < 0 then -j else j)) 0 0 0 k], ?_, _, 0, 0, 0, k, rfl, by rw [List.length_map]; exact h, Nat.zero_le _, by decide, by decide, k0, k1⟩
  simp [LIM, m_law_pool, runBody_app, hb, env0, ↓e, wipeE, ↓c1]
end
end W19
namespace W19
open PySem PySem.Spec PyProof.Rows L2 ClX ItX Mi
section
variable {st s : Sto}
/-! ### marks -/
theorem inX_strN {tab : Tab} {t : D → M Bool} {c : Nat} {l : List Nat} : inX tab t true (S [c]) (S l) st = .ok (.bl (!decide (c ∈ l))) st := by
  rw [← subS_one]
  rfl
def flt (l : List Nat) : List Nat := ALL.filter fun c => decide (c ∈ l)
def isHalt (l : List Nat) : Bool := decide (l = if flt l = [] then [45] else flt l)
theorem halt_eq (l : List Nat) : m_is_halt [S l] st = .ok (.bl (isHalt l)) st := by
  have hlen : (flt l).length ≤ 6 := List.length_filter_le _ _
  have c1 : kComp (gN 1) (tVal tru0 (eOp isin2 (eVar 1) (eVar 0))) (eVar 1) [.sh (S l), .no] (ALL.map fun c => S [c]) st = .ok ((flt l).map fun c => S [c]) st := by
    rw [comp_signs (by simp) (fun c => decide (c ∈ l)) ALL (by decide) (fun c hc => by
      have e : isin2 (S [c]) (S l) st = .ok (.bl (decide (c ∈ l))) st := inX_str
      simp [↓e])]
    rfl
  have j1 := joinD_one (st := st) (flt l) (Nat.le_trans hlen (by decide))
  by_cases h : flt l = []
  · rw [h] at c1
    have j0 : joinD (.str ⟨#[]⟩) [.lst []] st = .ok (S []) st := by rw [h] at j1; exact j1
    simp [m_is_halt, runBody_app, b_is_halt, env0, List.lookup, lit_all, lit_nil, lit_dash, signs_S, wipeE, ↓c1, ↓j0, S_len, LIM, isHalt, h]
  · have h' : ¬ (flt l).length = 0 := fun z => h (List.length_eq_zero_iff.mp z)
    have hl2 : (flt l).length ≤ 16777216 := by omega
    have hb : (((flt l).length : Int) != 0) = true := by simpa using h
    simp [m_is_halt, runBody_app, b_is_halt, env0, List.lookup, lit_all, lit_nil, lit_dash, signs_S, wipeE, ↓c1, ↓j1, h, S_len, h', LIM, hl2, hb, isHalt]
def okF : Option Nat → List Nat → Bool
  | _, [] => true
  | none, c :: cs => decide (c ∈ ALL) && okF (some c) cs
  | some p, c :: cs => decide (c ∈ ALL) && decide (p < c) && okF (some c) cs
def lastL : Option Nat → List Nat
  | none => []
  | some c => [c]
noncomputable def bodyS : SM := (sSeq (sIf (tOrM (tVal tru0 (eOp nin4 (eVar 2) (eC (.str "abcdef")))) (tVal tru0 (eOp leSt (eVar 2) (eVar 1)))) (sRet (eOp eq1 (eVar 0) (eC (.str "-")))) sNil)
  (sSet 1 (eVar 2)))
theorem set_turn {L : List Nat} {p : Option Nat} {c : Nat} {x2 : Slot} : bodyS [.sh (S L), .sh (S (lastL p)), .sh (S [c])] st = if okF p [c] = true then .nx [.sh (S L), .sh (S [c]), .sh (S [c])] st else .rt (.bl (decide (L = [45]))) st := by
  have e1 : nin4 (S [c]) (S ALL) st = .ok (.bl (!decide (c ∈ ALL))) st := inX_strN
  by_cases h : c ∈ ALL
  · rw [decide_eq_true h] at e1
    cases p with
    | none =>
      have e2 : leSt (S [c]) (S []) st = .ok (.bl false) st := by rw [leSt_S]; simp
      simp [bodyS, lit_all, ↓e1, lastL, ↓e2, okF, h]
    | some p =>
      have e2 : leSt (S [c]) (S [p]) st = .ok (.bl (!decide (p < c))) st := by
        have : ([p] < [c]) = (p < c) := propext ⟨fun h => (by
          have h' : List.Lex (· < ·) [p] [c] := h
          cases h' with
          | rel h => exact h
          | cons h => cases h), fun h => List.Lex.rel h⟩
        rw [leSt_S]; simp only [this]
      by_cases hp : p < c
      · rw [decide_eq_true hp] at e2
        simp [bodyS, lit_all, ↓e1, lastL, ↓e2, okF, h, hp]
      · rw [decide_eq_false hp] at e2
        simp [bodyS, lit_all, ↓e1, lastL, ↓e2, okF, h, hp, lit_dash]
  · rw [decide_eq_false h] at e1
    have ho : okF p [c] = false := by cases p <;> simp [okF, h]
    simp [bodyS, lit_all, ↓e1, ho, lit_dash]
theorem okF_cons {p : Option Nat} {c : Nat} {l : List Nat} : okF p (c :: l) = (okF p [c] && okF (some c) l) := by
  cases p <;> simp [okF]
theorem set_loop {L : List Nat} : ∀ (l : List Nat) (p : Option Nat) (x2 : Slot), (okF p l = true → ∃ p' x2', forLoop (gN 2) bodyS (l.map fun c => S [c]) [.sh (S L), .sh (S (lastL p)), x2] st = .nx [.sh (S L), .sh (S (lastL p')), x2'] st) ∧
    (okF p l = false → forLoop (gN 2) bodyS (l.map fun c => S [c]) [.sh (S L), .sh (S (lastL p)), x2] st = .rt (.bl (decide (L = [45]))) st)
  | [], p, x2 => ⟨fun _ => ⟨p, x2, rfl⟩, fun h => by simp [okF] at h⟩
  | c :: l, p, x2 => by
    have t := set_turn (st := st) (L := L) (p := p) (c := c) (x2 := x2)
    obtain ⟨i1, i2⟩ := set_loop (L := L) l (some c) (.sh (S [c]))
    rw [okF_cons, List.map_cons, forLoop_cons]
    show (_ → ∃ p' x2', (bodyS [.sh (S L), .sh (S (lastL p)), .sh (S [c])] st).loop _ = _) ∧ (_ → (bodyS [.sh (S L), .sh (S (lastL p)), .sh (S [c])] st).loop _ = _)
    rw [t]
    by_cases h : okF p [c] = true
    · rw [if_pos h, h, Bool.true_and]
      exact ⟨i1, i2⟩
    · rw [if_neg h, Bool.eq_false_iff.mpr h, Bool.false_and]
      exact ⟨fun z => Bool.noConfusion z, fun _ => rfl⟩
theorem okF_iff : ∀ {l : List Nat} {p : Option Nat}, okF p l = true ↔ (l.Pairwise (· < ·) ∧ (∀ c ∈ l, c ∈ ALL) ∧ ∀ q, p = some q → ∀ c ∈ l, q < c)
  | [], p => by cases p <;> simp [okF]
  | c :: l, p => by
    rw [okF_cons, Bool.and_eq_true, okF_iff (l := l)]
    have h1 : okF p [c] = true ↔ (c ∈ ALL ∧ ∀ q, p = some q → q < c) := by cases p <;> simp [okF]
    rw [h1]
    constructor
    · rintro ⟨⟨a, b⟩, c1, c2, c3⟩
      refine ⟨List.pairwise_cons.mpr ⟨fun d hd => c3 c rfl d hd, c1⟩, fun d hd => ?_, fun q hq d hd => ?_⟩
      · rcases List.mem_cons.mp hd with z | z
        · rw [z]; exact a
        · exact c2 d z
      · rcases List.mem_cons.mp hd with z | z
        · rw [z]; exact b q hq
        · exact Nat.lt_trans (b q hq) (c3 c rfl d z)
    · rintro ⟨a, b, e⟩
      obtain ⟨a1, a2⟩ := List.pairwise_cons.mp a
      exact ⟨⟨b c (List.mem_cons_self ..), fun q hq => e q hq c (List.mem_cons_self ..)⟩, a2, fun d hd => b d (List.mem_cons_of_mem _ hd), fun q hq d hd => by cases hq; exact a1 d hd⟩
theorem asc_sub : ∀ {m l : List Nat}, m.Pairwise (· < ·) → l.Pairwise (· < ·) → (∀ c ∈ l, c ∈ m) → l.Sublist m
  | [], [], _, _, _ => .slnil
  | [], c :: l, _, _, h => by have := h c (List.mem_cons_self ..); simp at this
  | a :: m, [], _, _, _ => List.nil_sublist _
  | a :: m, c :: l, hm, hl, h => by
    obtain ⟨m1, m2⟩ := List.pairwise_cons.mp hm
    obtain ⟨l1, l2⟩ := List.pairwise_cons.mp hl
    rcases List.mem_cons.mp (h c (List.mem_cons_self ..)) with z | z
    · subst z
      refine .cons₂ c (asc_sub m2 l2 fun d hd => ?_)
      rcases List.mem_cons.mp (h d (List.mem_cons_of_mem _ hd)) with z | z
      · have := l1 d hd; omega
      · exact z
    · refine .cons a (asc_sub m2 hl fun d hd => ?_)
      rcases List.mem_cons.mp (h d hd) with z2 | z2
      · have := m1 c z
        rcases List.mem_cons.mp hd with y | y
        · omega
        · have := l1 d y; omega
      · exact z2
theorem all_asc : ALL.Pairwise (· < ·) := by decide
theorem okF_sub {l : List Nat} : okF none l = true ↔ l.Sublist ALL := by
  rw [okF_iff]
  constructor
  · rintro ⟨a, b, _⟩; exact asc_sub all_asc a b
  · intro h; exact ⟨all_asc.sublist h, fun c hc => h.subset hc, fun q hq => by cases hq⟩
theorem flt_sub (l : List Nat) : (flt l).Sublist ALL := List.filter_sublist
theorem flt_of {l : List Nat} (h : l.Sublist ALL) : flt l = l := sub_filter h (by decide)
theorem isHalt_set (l : List Nat) : isHalt l = if okF none l = true then decide (l ≠ []) else decide (l = [45]) := by
  by_cases h : okF none l = true
  · rw [if_pos h]
    have e := flt_of (okF_sub.mp h)
    unfold isHalt
    rw [e]
    by_cases hl : l = []
    · subst hl; rfl
    · rw [if_neg hl]; simp [hl]
  · rw [if_neg h]
    unfold isHalt
    by_cases hf : flt l = []
    · rw [if_pos hf]
    · rw [if_neg hf]
      have h1 : ¬ l = flt l := fun z => h (okF_sub.mpr (by rw [z]; exact flt_sub l))
      have h2 : ¬ l = [45] := by
        rintro rfl
        exact hf (by decide)
      simp [h1, h2]
theorem set_eq (l : List Nat) : m_law_set [S l] st = .ok (.bl (isHalt l)) st := by
  have hb : b_law_set = sSeq (sSet 1 (eC (.str ""))) (sSeq (sFor (iVal (eVar 0)) (gN 2) bodyS) (sRet (eOp neD (eVar 0) (eC (.str ""))))) := rfl
  obtain ⟨i1, i2⟩ := set_loop (st := st) (L := l) l none .no
  rw [isHalt_set]
  by_cases h : okF none l = true
  · obtain ⟨p', x2', e⟩ := i1 h
    rw [show lastL none = [] from rfl] at e
    rw [if_pos h]
    simp [m_law_set, runBody_app, hb, env0, lit_nil, signs_S, ↓e]
  · have e := i2 (Bool.eq_false_iff.mpr h)
    rw [show lastL none = [] from rfl] at e
    rw [if_neg h]
    simp [m_law_set, runBody_app, hb, env0, lit_nil, signs_S, ↓e]
end
end W19
namespace W19
open PySem PySem.Spec PyProof.Rows L2 ClX ItX Mi
/-! ### literals -/
def DROP : List Nat := [100, 114, 111, 112]
def DOWN : List Nat := [100, 111, 119, 110]
def UP : List Nat := [117, 112]
def NA : List Nat := [110, 101, 97, 114, 95, 97, 98, 111, 118, 101]
def NB : List Nat := [110, 101, 97, 114, 95, 98, 101, 108, 111, 119]
def WAYS : List (List Nat) := [DOWN, UP, NA, NB]
theorem lit_drop : Str.ofString "drop" = ⟨DROP.toArray⟩ := by decide +kernel
theorem lit_down : Str.ofString "down" = ⟨DOWN.toArray⟩ := by decide +kernel
theorem lit_up : Str.ofString "up" = ⟨UP.toArray⟩ := by decide +kernel
theorem lit_na : Str.ofString "near_above" = ⟨NA.toArray⟩ := by decide +kernel
theorem lit_nb : Str.ofString "near_below" = ⟨NB.toArray⟩ := by decide +kernel
theorem ways_ok : ∀ l ∈ WAYS, Ok l := by unfold Ok; decide
theorem drop_not : ¬ DROP ∈ WAYS := by decide
/-! ### limits -/
inductive Lm
  | no
  | i (k : Int)
  | b (v : Bool)
  deriving DecidableEq
def Lm.d : Lm → D
  | .no => .non
  | .i k => .int k
  | .b v => .bl v
def limB : Lm → Bool
  | .no => true
  | .i k => decide (1 ≤ k) && decide (k ≤ 6)
  | .b _ => false
def whole : Lm → Bool
  | .i _ => true
  | _ => false
abbrev T3 (w : List Nat) (x : Lm) (l : List Nat) : D := .tup [S w, x.d, S l]
def isDrop (w : List Nat) (x : Lm) (l : List Nat) : Bool := decide (w = DROP) && (decide (x = .no) && decide (l = [45]))
def isFill (w : List Nat) (x : Lm) (l : List Nat) : Bool := isDrop w x l || (decide (w ∈ WAYS) && (limB x && isHalt l))
section
variable {st s : Sto}
theorem limit_eq (x : Lm) : m_is_limit [x.d] st = .ok (.bl (limB x)) st := by
  cases x with
  | no => simp [m_is_limit, runBody_app, b_is_limit, env0, Lm.d, limB]
  | b v =>
    have e : isD false (.bl v) .non st = .ok (.bl false) st := rfl
    simp [m_is_limit, runBody_app, b_is_limit, env0, Lm.d, limB, List.lookup, ↓e]
  | i k =>
    by_cases h1 : 1 ≤ k
    · simp [m_is_limit, runBody_app, b_is_limit, env0, Lm.d, List.lookup, leD, h1, limB]
    · simp [m_is_limit, runBody_app, b_is_limit, env0, Lm.d, List.lookup, leD, h1, limB]
theorem whole_eq (x : Lm) : m_law_whole [x.d] st = .ok (.bl (whole x)) st := by
  cases x <;> simp [m_law_whole, runBody_app, b_law_whole, env0, Lm.d, List.lookup, whole]
/-! ### data compared -/
theorem shaped_dat {x : D} {a : PyData} (h : Dat x a) (k : a.depth ≤ 10) : SeqAt.shaped a = true := by
  unfold SeqAt.shaped
  rw [Bool.and_eq_true]
  refine ⟨h.2, ?_⟩
  rw [decide_eq_true_eq]
  exact Nat.le_trans k (by decide)
theorem eqD_tup {ds es : List D} {a b : PyData} {tab : Tab} {nf : Nat → Tag → Bool} (ha : Dat (.tup ds) a) (ka : a.depth ≤ 10) (hb : Dat (.tup es) b) (kb : b.depth ≤ 10) : eqD tab nf (.tup ds) (.tup es) st = .ok (.bl (PyData.eqv a b)) st :=
  pdR (x := .tup ds) (y := .tup es) ha.1 hb.1 (shaped_dat ha ka) (shaped_dat hb kb) _
def Lm.pd : Lm → PyData
  | .no => .none
  | .i k => .int k
  | .b v => .bool v
theorem lm_dat (x : Lm) : Dat x.d x.pd := by cases x <;> exact ⟨rfl, rfl⟩
theorem T3_dat {w l : List Nat} {x : Lm} (hw : Ok w) (hl : Ok l) : Dat (T3 w x l) (.tuple [.str ⟨w.toArray⟩, x.pd, .str ⟨l.toArray⟩]) ∧ (PyData.tuple [.str ⟨w.toArray⟩, x.pd, .str ⟨l.toArray⟩]).depth ≤ 10 := by
  refine ⟨.tup (.cons (.S w hw) (.cons (lm_dat x) (.cons (.S l hl) .nil))), ?_⟩
  cases x <;> simp [PyData.depth, PyData.depthAll, Lm.pd]
theorem ok_drop : Ok DROP := by unfold Ok; decide
theorem ok_dash : Ok [45] := by unfold Ok; decide
theorem eq_drop {w l : List Nat} {x : Lm} (hw : Ok w) (hl : Ok l) : eq1 (T3 w x l) (.tup [S DROP, .non, S [45]]) st = .ok (.bl (isDrop w x l)) st := by
  obtain ⟨a1, a2⟩ := T3_dat (x := x) hw hl
  obtain ⟨b1, b2⟩ := T3_dat (x := .no) ok_drop ok_dash
  refine (eqD_tup a1 a2 b1 b2).trans ?_
  have : PyData.eqv (.tuple [.str ⟨w.toArray⟩, x.pd, .str ⟨l.toArray⟩]) (.tuple [.str ⟨DROP.toArray⟩, Lm.pd .no, .str ⟨[45].toArray⟩]) = isDrop w x l := by
    show (PyData.eqv (.str ⟨w.toArray⟩) (.str ⟨DROP.toArray⟩) && (PyData.eqv x.pd .none && (PyData.eqv (.str ⟨l.toArray⟩) (.str ⟨[45].toArray⟩) && true))) = _
    rw [eqv_str, eqv_str, Bool.and_true]
    unfold isDrop
    cases x <;> simp [Lm.pd, PyData.eqv]
  rw [this]
theorem eq_self {w l : List Nat} {x : Lm} (hw : Ok w) (hl : Ok l) : eq1 (T3 w x l) (T3 w x l) st = .ok (.bl true) st := by
  obtain ⟨a1, a2⟩ := T3_dat (x := x) hw hl
  exact (eqD_tup a1 a2 a1 a2).trans (by rw [SeqAt.eqv_refl _ a1.2])
/-! ### steps -/
theorem in_ways {w : List Nat} : isin2 (S w) (.tup [S DOWN, S UP, S NA, S NB]) st = .ok (.bl (decide (w ∈ WAYS))) st := (inX_tS (ls := WAYS)).trans (by simp)
theorem fill_eq {w l : List Nat} {x : Lm} (hw : Ok w) (hl : Ok l) : m_is_fill_step [T3 w x l] st = .ok (.bl (isFill w x l)) st := by
  have e := eq_drop (st := st) (x := x) hw hl
  have e2 := in_ways (st := st) (w := w)
  have e3 := limit_eq (st := st) x
  have e4 := halt_eq (st := st) l
  unfold isFill
  cases h1 : isDrop w x l with
  | true =>
    rw [h1] at e
    simp [LIM, m_is_fill_step, runBody_app, b_is_fill_step, env0, List.lookup, lit_drop, lit_dash, ↓e]
  | false =>
    rw [h1] at e
    cases h2 : decide (w ∈ WAYS) with
    | false =>
      rw [h2] at e2
      simp [LIM, m_is_fill_step, runBody_app, b_is_fill_step, env0, List.lookup, lit_drop, lit_dash, lit_down, lit_up, lit_na, lit_nb, ↓e, ↓e2]
    | true =>
      rw [h2] at e2
      cases h3 : limB x with
      | false =>
        rw [h3] at e3
        simp [LIM, m_is_fill_step, runBody_app, b_is_fill_step, env0, List.lookup, lit_drop, lit_dash, lit_down, lit_up, lit_na, lit_nb, ↓e, ↓e2, ↓e3]
      | true =>
        rw [h3] at e3
        simp [LIM, m_is_fill_step, runBody_app, b_is_fill_step, env0, List.lookup, lit_drop, lit_dash, lit_down, lit_up, lit_na, lit_nb, ↓e, ↓e2, ↓e3, ↓e4]
theorem step_eq {w l : List Nat} {x : Lm} (hw : Ok w) (hl : Ok l) : m_fill_step [S w, x.d, S l] st = if isFill w x l = true then .ok (T3 w x l) st else .exc 16 [("at", .int 0)] st := by
  have e := fill_eq (st := st) (x := x) hw hl
  cases h : isFill w x l with
  | true =>
    rw [h] at e
    simp [LIM, m_fill_step, runBody_app, b_fill_step, env0, ↓e]
  | false =>
    rw [h] at e
    simp [LIM, m_fill_step, runBody_app, b_fill_step, env0, ↓e, xfs]
theorem nin_ways {w : List Nat} (hw : Ok w) : nin4 (S w) (.lst [S DOWN, S UP, S NA, S NB]) st = .ok (.bl (!decide (w ∈ WAYS))) st := (inX_Ss (ls := WAYS) hw ways_ok).trans (by simp)
theorem valid_eq {w l : List Nat} {x : Lm} (hw : Ok w) : m_law_valid [S w, x.d, S l] st = .ok (.bl (isFill w x l)) st := by
  have e2 := nin_ways (st := st) hw
  have e3 := whole_eq (st := st) x
  have e4 := set_eq (st := st) l
  unfold isFill isDrop
  by_cases h1 : w = DROP
  · subst h1
    have hd : ¬ DROP ∈ WAYS := drop_not
    cases x with
    | no => simp [LIM, m_law_valid, runBody_app, b_law_valid, env0, lit_drop, lit_dash, Lm.d, hd]
    | i k => simp [LIM, m_law_valid, runBody_app, b_law_valid, env0, lit_drop, lit_dash, Lm.d, hd]
    | b v =>
      have e : isD false (.bl v) .non st = .ok (.bl false) st := rfl
      simp [LIM, m_law_valid, runBody_app, b_law_valid, env0, lit_drop, lit_dash, Lm.d, hd, ↓e]
  · cases h2 : decide (w ∈ WAYS) with
    | false =>
      rw [h2] at e2
      simp [LIM, m_law_valid, runBody_app, b_law_valid, env0, lit_drop, lit_dash, lit_down, lit_up, lit_na, lit_nb, Str_inj, h1, ↓e2]
    | true =>
      rw [h2] at e2
      cases x with
      | no => simp [LIM, m_law_valid, runBody_app, b_law_valid, env0, lit_drop, lit_dash, lit_down, lit_up, lit_na, lit_nb, Str_inj, h1, ↓e2, Lm.d, limB, ↓e4]
      | i k =>
        have e3' : m_law_whole [.int k] st = .ok (.bl true) st := e3
        by_cases k1 : 1 ≤ k
        · by_cases k2 : k ≤ 6
          · simp [LIM, m_law_valid, runBody_app, b_law_valid, env0, lit_drop, lit_dash, lit_down, lit_up, lit_na, lit_nb, Str_inj, h1, ↓e2, Lm.d, limB, ↓e4, ↓e3', leD, k1, k2]
          · simp [LIM, m_law_valid, runBody_app, b_law_valid, env0, lit_drop, lit_dash, lit_down, lit_up, lit_na, lit_nb, Str_inj, h1, ↓e2, Lm.d, limB, ↓e4, ↓e3', leD, k1, k2]
        · simp [LIM, m_law_valid, runBody_app, b_law_valid, env0, lit_drop, lit_dash, lit_down, lit_up, lit_na, lit_nb, Str_inj, h1, ↓e2, Lm.d, limB, ↓e4, ↓e3', leD, k1]
      | b v =>
        have e : isD true (.bl v) .non st = .ok (.bl true) st := rfl
        have e3' : m_law_whole [.bl v] st = .ok (.bl false) st := e3
        simp [LIM, m_law_valid, runBody_app, b_law_valid, env0, lit_drop, lit_dash, lit_down, lit_up, lit_na, lit_nb, Str_inj, h1, ↓e2, Lm.d, limB, ↓e, ↓e3']
theorem is_step_eq {w l : List Nat} {x : Lm} (hw : Ok w) (hl : Ok l) (hx : ∀ v, x ≠ .b v) : m_law_is_step [T3 w x l, T3 w x l] st = .ok (.bl true) st := by
  have e := eq_self (st := st) (x := x) hw hl
  have e3 := whole_eq (st := st) x
  cases x with
  | no => simp [LIM, m_law_is_step, runBody_app, b_law_is_step, env0, List.lookup, Lm.d, ↓e] <;> exact e
  | i k =>
    have e3' : m_law_whole [.int k] st = .ok (.bl true) st := e3
    simp [LIM, m_law_is_step, runBody_app, b_law_is_step, env0, List.lookup, Lm.d, ↓e3'] <;> first | exact e | (rw [e]; rfl)
  | b v => exact absurd rfl (hx v)
theorem fill_notb {w l : List Nat} {x : Lm} (h : isFill w x l = true) : ∀ v, x ≠ .b v := by
  rintro v rfl
  simp [isFill, isDrop, limB] at h
end
end W19
namespace W19
open PySem PySem.Spec PyProof.Rows L2 ClX ItX Mi
section
variable {st s : Sto} {env : En} {ma mb mc : EM}
/-! ### steps made -/
theorem made_eq {w l : List Nat} {x : Lm} (hw : Ok w) (hl : Ok l) : m_law_made [S w, x.d, S l] st = .ok (.bl true) st := by
  have e1 := valid_eq (st := st) (x := x) (l := l) hw
  have e2 := step_eq (st := st) (x := x) hw hl
  cases h : isFill w x l with
  | true =>
    rw [h] at e1 e2
    rw [if_pos rfl] at e2
    have e3 := is_step_eq (st := st) hw hl (fill_notb h)
    simp [LIM, m_law_made, runBody_app, b_law_made, env0, ↓e1, mCallKs_app, pickL, ↓e2, ↓e3]
  | false =>
    rw [h] at e1 e2
    rw [if_neg (by decide)] at e2
    have e4 : m_law_whole [.int 0] st = .ok (.bl true) st := whole_eq (.i 0)
    simp [LIM, m_law_made, runBody_app, b_law_made, env0, ↓e1, mCallKs_app, pickL, ↓e2, subL, List.lookup, ↓e4]
theorem limB_no : limB .no = true := rfl
theorem dash_halt : isHalt [45] = true := by decide
theorem fill_parts {w l : List Nat} {x : Lm} (h : isFill w x l = true) : isFill w .no [45] = true ∧ isFill w x [45] = true ∧ isFill w .no l = true := by
  simp only [isFill, isDrop, Bool.or_eq_true, Bool.and_eq_true, decide_eq_true_eq] at h ⊢
  rcases h with ⟨a, b, c⟩ | ⟨a, b, c⟩
  · simp [a, b, c]
  · simp [a, b, c, dash_halt, limB_no]
theorem short_eq {w l : List Nat} {x : Lm} (hw : Ok w) (hl : Ok l) : m_law_short [S w, x.d, S l] st = .ok (.bl true) st := by
  have e1 := valid_eq (st := st) (x := x) (l := l) hw
  cases h : isFill w x l with
  | false =>
    rw [h] at e1
    simp [LIM, m_law_short, runBody_app, b_law_short, env0, ↓e1]
  | true =>
    rw [h] at e1
    obtain ⟨h1, h2, h3⟩ := fill_parts h
    have e2 := step_eq (st := st) (x := x) hw hl
    have e3 : m_fill_step [S w, .non, S [45]] st = _ := step_eq (st := st) (x := .no) hw ok_dash
    have e4 := step_eq (st := st) (x := x) hw ok_dash
    have e5 : m_fill_step [S w, .non, S l] st = _ := step_eq (st := st) (x := .no) hw hl
    rw [if_pos h] at e2
    rw [if_pos h1] at e3
    rw [if_pos h2] at e4
    rw [if_pos h3] at e5
    have s2 := is_step_eq (st := st) hw hl (fill_notb h)
    have s3 : m_law_is_step [T3 w .no [45], .tup [S w, .non, S [45]]] st = _ := is_step_eq (st := st) hw ok_dash (fill_notb h1)
    have s4 := is_step_eq (st := st) hw ok_dash (fill_notb h2)
    have s5 : m_law_is_step [T3 w .no l, .tup [S w, .non, S l]] st = _ := is_step_eq (st := st) hw hl (fill_notb h3)
    simp [LIM, m_law_short, runBody_app, b_law_short, env0, ↓e1, lit_dash, mCallKs_app, pickL, ↓e2, ↓e3, ↓e4, ↓e5, ↓s2, ↓s3, ↓s4, ↓s5]
/-! ### the text of a step -/
def ROWS_ : List Nat := [32, 114, 111, 119, 115, 32]
def HALT_ : List Nat := [32, 104, 97, 108, 116, 32]
theorem lit_rows_ : Str.ofString " rows " = ⟨ROWS_.toArray⟩ := by decide +kernel
theorem lit_halt_ : Str.ofString " halt " = ⟨HALT_.toArray⟩ := by decide +kernel
def num (k : Int) : List Nat := [48 + k.toNat]
def rowsT : Lm → List Nat
  | .i k => ROWS_ ++ num k
  | _ => []
def haltT (l : List Nat) : List Nat := if l = [45] then [] else HALT_ ++ l
def txt (w : List Nat) (x : Lm) (l : List Nat) : List Nat := w ++ rowsT x ++ haltT l
theorem num_cases {k : Int} (h : limB (.i k) = true) : k = 1 ∨ k = 2 ∨ k = 3 ∨ k = 4 ∨ k = 5 ∨ k = 6 := by
  simp only [limB, Bool.and_eq_true, decide_eq_true_eq] at h
  omega
theorem str_num {k : Int} (h : limB (.i k) = true) : strD [.int k] st = .ok (S (num k)) st := by
  rcases num_cases h with rfl | rfl | rfl | rfl | rfl | rfl <;> exact (cif_pos (by decide)).trans (congrArg (fun z => Res.ok (D.str z) st) (by decide +kernel))
theorem fmt_num {k : Int} (h : limB (.i k) = true) : fmtD (.int k) st = .ok (S (num k)) st := by
  rcases num_cases h with rfl | rfl | rfl | rfl | rfl | rfl <;> exact (cif_pos (by decide)).trans (congrArg (fun z => Res.ok (D.str z) st) (by decide +kernel))
theorem fmt_S {l : List Nat} (h : l.length ≤ 1000) : fmtD (S l) st = .ok (S l) st := by
  rw [fmtD_str, if_pos (by rw [S_len]; simp only [LIM]; omega)]
theorem kJs_S {a b : List Nat} {k : Str → M D} (h : a.length + b.length ≤ 1000) : kJs k ⟨a.toArray⟩ (S b) st = k ⟨(a ++ b).toArray⟩ st := by
  rw [kJs_str, Str_app, if_pos (by rw [S_len, List.length_append]; simp only [LIM]; omega)]
theorem js_two {a b : List Nat} (h : a.length + b.length ≤ 1000) (ha : ma env st = .ok (S a) st) (hb : mb env st = .ok (S b) st) : eJs [ma, mb] env st = .ok (S (a ++ b)) st := by
  rw [eJs_app, jsM_cons, ha, bind_ok, Str_empty, kJs_S (by rw [List.length_nil]; omega), List.nil_append, jsM_cons, hb, bind_ok, kJs_S h, jsM_nil]
theorem js_three {a b c : List Nat} (h : a.length + b.length + c.length ≤ 1000) (ha : ma env st = .ok (S a) st) (hb : mb env st = .ok (S b) st) (hc : mc env st = .ok (S c) st) : eJs [ma, mb, mc] env st = .ok (S (a ++ b ++ c)) st := by
  rw [eJs_app, jsM_cons, ha, bind_ok, Str_empty, kJs_S (by rw [List.length_nil]; omega), List.nil_append, jsM_cons, hb, bind_ok, kJs_S (by omega), jsM_cons, hc, bind_ok, kJs_S (by rw [List.length_append]; omega), jsM_nil]
theorem fmtE_S {l : List Nat} (h : l.length ≤ 1000) (ha : ma env st = .ok (S l) st) : eFmt ma env st = .ok (S l) st := by
  rw [eFmt_app, ha, bind_ok, fmt_S h]
theorem rows_len (x : Lm) : (rowsT x).length ≤ 7 := by
  cases x with
  | i k => rw [rowsT, List.length_append]; exact Nat.le_refl 7
  | no => exact Nat.zero_le _
  | b v => exact Nat.zero_le _
theorem halt_len (l : List Nat) : (haltT l).length ≤ 6 + l.length := by
  unfold haltT
  split
  · exact Nat.zero_le _
  · rw [List.length_append]; exact Nat.le_refl _
theorem txt_len (w l : List Nat) (x : Lm) : (txt w x l).length ≤ w.length + l.length + 13 := by
  have a := rows_len x; have b := halt_len l
  unfold txt
  rw [List.length_append, List.length_append]
  omega
theorem fill_text_eq {w l : List Nat} {x : Lm} (h1 : w.length ≤ 300) (h2 : l.length ≤ 300) (hx : limB x = true) : m_fill_text [T3 w x l] st = .ok (S (txt w x l)) st := by
  have a := rows_len x; have b := halt_len l
  have e4 : eIf (tVal tru0 (eOp (isD false) (eVar 2) (eC .non))) (eC (.str "")) (eJs [(eC (.str " rows ")), (eFmt (eVar 2))]) [.sh (T3 w x l), .sh (S w), .sh x.d, .sh (S l), .no, .no] st = .ok (S (rowsT x)) st := by
    cases x with
    | no => simp [Lm.d, lit_nil, rowsT]
    | b v => simp [limB] at hx
    | i k =>
      have j := js_two (env := [.sh (T3 w (.i k) l), .sh (S w), .sh (.int k), .sh (S l), .no, .no]) (st := st) (ma := eC (.str " rows ")) (mb := eFmt (eVar 2)) (a := ROWS_) (b := num k) (Nat.le_trans (by exact Nat.le_refl 7) (by decide)) (by rw [lit_rows_]; rfl) (by rw [eFmt_app]; exact fmt_num hx)
      simp [Lm.d, rowsT, ↓j]
  have e5 : eIf (tVal tru0 (eOp eq1 (eVar 3) (eC (.str "-")))) (eC (.str "")) (eJs [(eC (.str " halt ")), (eFmt (eVar 3))]) [.sh (T3 w x l), .sh (S w), .sh x.d, .sh (S l), .sh (S (rowsT x)), .no] st = .ok (S (haltT l)) st := by
    unfold haltT
    by_cases h : l = [45]
    · subst h
      simp [lit_nil, lit_dash]
    · have j := js_two (env := [.sh (T3 w x l), .sh (S w), .sh x.d, .sh (S l), .sh (S (rowsT x)), .no]) (st := st) (ma := eC (.str " halt ")) (mb := eFmt (eVar 3)) (a := HALT_) (b := l) (by have : HALT_.length = 6 := rfl; omega) (by rw [lit_halt_]; rfl) (fmtE_S (by omega) rfl)
      simp [lit_dash, Str_inj, h, ↓j]
  have e6 := js_three (env := [.sh (T3 w x l), .sh (S w), .sh x.d, .sh (S l), .sh (S (rowsT x)), .sh (S (haltT l))]) (st := st) (ma := eFmt (eVar 1)) (mb := eFmt (eVar 4)) (mc := eFmt (eVar 5)) (a := w) (b := rowsT x) (c := haltT l) (by omega) (fmtE_S (by omega) rfl) (fmtE_S (by omega) rfl) (fmtE_S (by omega) rfl)
  simp [m_fill_text, runBody_app, b_fill_text, env0, ↓e4, ↓e5, ↓e6, txt]
theorem add_S {a b : List Nat} (h : a.length + b.length ≤ 1000) : addL (S a) (S b) st = .ok (S (a ++ b)) st := by
  rw [addL_str, if_pos (by rw [S_len, S_len]; simp only [LIM]; omega), Str_app]
theorem law_text_eq {w l : List Nat} {x : Lm} (h1 : w.length ≤ 300) (h2 : l.length ≤ 300) (hx : limB x = true) : m_law_text [T3 w x l] st = .ok (S (txt w x l)) st := by
  have a := rows_len x; have b := halt_len l
  have hr : ROWS_.length = 6 := rfl
  have hh : HALT_.length = 6 := rfl
  have e5 : ∀ v, sIf (tVal tru0 (eOp neD (eOp ixD (eVar 0) (eC (.int 2))) (eC (.str "-")))) (sSet 1 (eOp addL (eOp addL (eVar 1) (eC (.str " halt "))) (eOp ixD (eVar 0) (eC (.int 2))))) sNil [.sh (T3 w x l), .sh (S v)] st = if v.length ≤ 310 then .nx [.sh (T3 w x l), .sh (S (v ++ haltT l))] st else sIf (tVal tru0 (eOp neD (eOp ixD (eVar 0) (eC (.int 2))) (eC (.str "-")))) (sSet 1 (eOp addL (eOp addL (eVar 1) (eC (.str " halt "))) (eOp ixD (eVar 0) (eC (.int 2))))) sNil [.sh (T3 w x l), .sh (S v)] st := fun v => by
    by_cases hv : v.length ≤ 310
    · rw [if_pos hv]
      unfold haltT
      by_cases h : l = [45]
      · subst h
        simp [lit_dash]
      · have p1 : addL (S v) (S HALT_) st = .ok (S (v ++ HALT_)) st := add_S (by omega)
        have p2 : addL (S (v ++ HALT_)) (S l) st = .ok (S (v ++ HALT_ ++ l)) st := add_S (by rw [List.length_append]; omega)
        simp [lit_dash, lit_halt_, Str_inj, h, ↓p1, ↓p2]
    · rw [if_neg hv]
  cases x with
  | b v => simp [limB] at hx
  | no =>
    have e := e5 w
    rw [if_pos (by omega)] at e
    simp [m_law_text, runBody_app, b_law_text, env0, Lm.d, ↓e, txt, rowsT]
  | i k =>
    have e := e5 (w ++ ROWS_ ++ num k)
    rw [if_pos (by rw [List.length_append, List.length_append, hr]; show _ + 1 ≤ _; omega)] at e
    have e' : sIf (tVal tru0 (eOp neD (eOp ixD (eVar 0) (eC (.int 2))) (eC (.str "-")))) (sSet 1 (eOp addL (eOp addL (eVar 1) (eC (.str " halt "))) (eOp ixD (eVar 0) (eC (.int 2))))) sNil [.sh (.tup [S w, .int k, S l]), .sh (S (w ++ ROWS_ ++ num k))] st = _ := e
    have p1 : addL (S w) (S ROWS_) st = .ok (S (w ++ ROWS_)) st := add_S (by omega)
    have p2 : addL (S (w ++ ROWS_)) (S (num k)) st = .ok (S (w ++ ROWS_ ++ num k)) st := add_S (by rw [List.length_append, hr]; show _ + 1 ≤ _; omega)
    have p3 := str_num (st := st) hx
    have q : isD true (.int k) .non st = .ok (.bl true) st := rfl
    have hs : sSeq (sSet 1 (eOp ixD (eVar 0) (eC (.int 0)))) (sIf (tVal tru0 (eOp (isD true) (eOp ixD (eVar 0) (eC (.int 1))) (eC .non))) (sSet 1 (eOp addL (eOp addL (eVar 1) (eC (.str " rows "))) (eCall strD (aCons (eOp ixD (eVar 0) (eC (.int 1))) aNil)))) sNil) [.sh (.tup [S w, .int k, S l]), .no] st = .nx [.sh (.tup [S w, .int k, S l]), .sh (S (w ++ ROWS_ ++ num k))] st := by
      simp [↓p1, ↓p2, ↓p3, ↓q, lit_rows_]
    rw [sSeq_app] at hs
    show (b_law_text (env0 2 [.tup [S w, .int k, S l]]) st).out = _
    unfold b_law_text
    rw [sSeq_app]
    show SRes.out ((sSet 1 (eOp ixD (eVar 0) (eC (.int 0))) [.sh (.tup [S w, .int k, S l]), .no] st).next _) = _
    rw [show (sSet 1 (eOp ixD (eVar 0) (eC (.int 0))) [.sh (.tup [S w, .int k, S l]), .no] st) = .nx [.sh (.tup [S w, .int k, S l]), .sh (S w)] st by simp] at hs ⊢
    rw [next_nx] at hs ⊢
    rw [sSeq_app, hs, next_nx, sSeq_app, e', next_nx]
    simp [txt, rowsT]
end
end W19
namespace W19
open PySem PySem.Spec PyProof.Rows L2 ClX ItX Mi
/-! ### what a text means, over its words -/
def RW : List Nat := [114, 111, 119, 115]
def HA : List Nat := [104, 97, 108, 116]
theorem lit_rows : Str.ofString "rows" = ⟨RW.toArray⟩ := by decide +kernel
theorem lit_halt : Str.ofString "halt" = ⟨HA.toArray⟩ := by decide +kernel
theorem lit_1 : Str.ofString "1" = ⟨[49].toArray⟩ := by decide +kernel
theorem lit_2 : Str.ofString "2" = ⟨[50].toArray⟩ := by decide +kernel
theorem lit_3 : Str.ofString "3" = ⟨[51].toArray⟩ := by decide +kernel
theorem lit_4 : Str.ofString "4" = ⟨[52].toArray⟩ := by decide +kernel
theorem lit_5 : Str.ofString "5" = ⟨[53].toArray⟩ := by decide +kernel
theorem lit_6 : Str.ofString "6" = ⟨[54].toArray⟩ := by decide +kernel
def NUMS : List (List Nat) := [[49], [50], [51], [52], [53], [54]]
theorem nums_ok : ∀ l ∈ NUMS, Ok l := by unfold Ok; decide
def numb (b : List Nat) : Lm := if b = [49] then .i 1 else if b = [50] then .i 2 else if b = [51] then .i 3 else if b = [52] then .i 4 else if b = [53] then .i 5 else if b = [54] then .i 6 else .i 0
def scan : List (List Nat) → Lm × List Nat → Lm × List Nat
  | a :: b :: r, s => scan r (if a = RW then numb b else s.1, if a = HA then b else s.2)
  | _, s => s
def ok3 (l w : List Nat) (s : Lm × List Nat) : Option (List Nat × Lm × List Nat) := if isFill w s.1 s.2 = true ∧ txt w s.1 s.2 = l then some (w, s.1, s.2) else none
def stepOf (l : List Nat) : Option (List Nat × Lm × List Nat) := match wds l with
  | [] => none
  | w :: ws => ok3 l w (scan ws (.no, [45]))
def rd1 : List (List Nat) → Lm × List (List Nat)
  | a :: b :: r => if a = RW ∧ b ∈ NUMS then (numb b, r) else (.no, a :: b :: r)
  | ws => (.no, ws)
def rd2 : List (List Nat) → List Nat × List (List Nat)
  | a :: b :: r => if a = HA ∧ b ≠ [45] ∧ isHalt b = true then (b, r) else ([45], a :: b :: r)
  | ws => ([45], ws)
def fin3 (w : List Nat) (x : Lm) (p : List Nat × List (List Nat)) : Option (List Nat × Lm × List Nat) := if p.2 ≠ [] ∨ ¬ w ∈ WAYS then none else some (w, x, p.1)
def reading (l : List Nat) : Option (List Nat × Lm × List Nat) := match wds l with
  | [] => none
  | w :: ws => if w :: ws = [DROP] then some (DROP, .no, [45]) else fin3 w (rd1 ws).1 (rd2 (rd1 ws).2)
theorem rd1_two (a b : List Nat) (r : List (List Nat)) : rd1 (a :: b :: r) = if a = RW ∧ b ∈ NUMS then (numb b, r) else (.no, a :: b :: r) := rfl
theorem rd2_two (a b : List Nat) (r : List (List Nat)) : rd2 (a :: b :: r) = if a = HA ∧ b ≠ [45] ∧ isHalt b = true then (b, r) else ([45], a :: b :: r) := rfl
/-! ### both readings agree -/
def rowsW : Lm → List (List Nat)
  | .i k => [RW, num k]
  | _ => []
def haltW (h : List Nat) : List (List Nat) := if h = [45] then [] else [HA, h]
def wsOf (w : List Nat) (x : Lm) (h : List Nat) : List (List Nat) := w :: (rowsW x ++ haltW h)
theorem jn_wsOf (w : List Nat) (x : Lm) (h : List Nat) : jn (wsOf w x h) = txt w x h := by
  unfold wsOf haltW txt haltT
  cases x <;> by_cases hh : h = [45] <;> simp [hh, rowsW, rowsT, jn, ROWS_, HALT_, RW, HA, num]
theorem flt_free (h : List Nat) : 32 ∉ flt h := fun z => by
  have := (flt_sub h).subset z
  simp [ALL] at this
theorem halt_free {h : List Nat} (k : isHalt h = true) : 32 ∉ h := by
  unfold isHalt at k
  rw [decide_eq_true_eq] at k
  rw [k]
  split
  · decide
  · exact flt_free h
theorem fill_limB {w h : List Nat} {x : Lm} (k : isFill w x h = true) : limB x = true := by
  simp only [isFill, isDrop, Bool.or_eq_true, Bool.and_eq_true, decide_eq_true_eq] at k
  rcases k with ⟨_, b, _⟩ | ⟨_, b, _⟩
  · rw [b]; rfl
  · exact b
theorem fill_halt {w h : List Nat} {x : Lm} (k : isFill w x h = true) : isHalt h = true := by
  simp only [isFill, isDrop, Bool.or_eq_true, Bool.and_eq_true, decide_eq_true_eq] at k
  rcases k with ⟨_, _, b⟩ | ⟨_, _, b⟩
  · rw [b]; decide
  · exact b
theorem ways_free : ∀ w ∈ DROP :: WAYS, 32 ∉ w := by decide
theorem fill_way {w h : List Nat} {x : Lm} (k : isFill w x h = true) : w ∈ DROP :: WAYS := by
  simp only [isFill, isDrop, Bool.or_eq_true, Bool.and_eq_true, decide_eq_true_eq] at k
  rcases k with ⟨b, _, _⟩ | ⟨b, _, _⟩
  · rw [b]; exact List.mem_cons_self ..
  · exact List.mem_cons_of_mem _ b
theorem num_free {k : Int} (h : limB (.i k) = true) : 32 ∉ num k := by
  rcases num_cases h with rfl | rfl | rfl | rfl | rfl | rfl <;> decide
theorem wsOf_free {w h : List Nat} {x : Lm} (k : isFill w x h = true) : ∀ v ∈ wsOf w x h, 32 ∉ v := by
  have a := ways_free w (fill_way k)
  have b := fill_limB k
  have c := halt_free (fill_halt k)
  have r : 32 ∉ RW := by decide
  have s : 32 ∉ HA := by decide
  intro v hv
  unfold wsOf haltW at hv
  cases x with
  | b v => simp [limB] at b
  | no =>
    by_cases hh : h = [45]
    · simp [hh, rowsW] at hv; rw [hv]; exact a
    · simp [hh, rowsW] at hv
      rcases hv with rfl | rfl | rfl
      · exact a
      · exact s
      · exact c
  | i n =>
    have d := num_free b
    by_cases hh : h = [45]
    · simp [hh, rowsW] at hv
      rcases hv with rfl | rfl | rfl
      · exact a
      · exact r
      · exact d
    · simp [hh, rowsW] at hv
      rcases hv with rfl | rfl | rfl | rfl | rfl
      · exact a
      · exact r
      · exact d
      · exact s
      · exact c
theorem wds_txt {w h : List Nat} {x : Lm} (k : isFill w x h = true) : wds (txt w x h) = wsOf w x h := by
  rw [← jn_wsOf, wds_jn (by simp [wsOf]) (wsOf_free k)]
theorem numb_num {k : Int} (h : limB (.i k) = true) : numb (num k) = .i k ∧ num k ∈ NUMS := by
  rcases num_cases h with rfl | rfl | rfl | rfl | rfl | rfl <;> decide
theorem numb_in {b : List Nat} (h : b ∈ NUMS) : ∃ k, numb b = .i k ∧ limB (.i k) = true ∧ b = num k := by
  simp only [NUMS, List.mem_cons, List.not_mem_nil, or_false] at h
  rcases h with rfl | rfl | rfl | rfl | rfl | rfl
  · exact ⟨1, by decide⟩
  · exact ⟨2, by decide⟩
  · exact ⟨3, by decide⟩
  · exact ⟨4, by decide⟩
  · exact ⟨5, by decide⟩
  · exact ⟨6, by decide⟩
theorem rh : ¬ RW = HA := by decide
theorem hr : ¬ HA = RW := by decide
theorem scan_wsOf {x : Lm} {h : List Nat} (k : limB x = true) : scan (rowsW x ++ haltW h) (.no, [45]) = (x, h) := by
  unfold haltW
  cases x with
  | b v => simp [limB] at k
  | no => by_cases hh : h = [45] <;> simp [hh, rowsW, scan, hr]
  | i n =>
    have e := (numb_num k).1
    by_cases hh : h = [45] <;> simp [hh, rowsW, scan, hr, rh, e]
theorem drop_fill {x : Lm} {h : List Nat} (k : isFill DROP x h = true) : x = .no ∧ h = [45] := by
  simp only [isFill, isDrop, Bool.or_eq_true, Bool.and_eq_true, decide_eq_true_eq] at k
  rcases k with ⟨_, b, c⟩ | ⟨b, _⟩
  · exact ⟨b, c⟩
  · exact absurd b drop_not
theorem ways_fill {w h : List Nat} {x : Lm} (hw : ¬ w = DROP) (k : isFill w x h = true) : w ∈ WAYS := by
  rcases List.mem_cons.mp (fill_way k) with z | z
  · exact absurd z hw
  · exact z
/-- what the words of a step's text are read as -/
theorem reading_wsOf {l w h : List Nat} {x : Lm} (k : isFill w x h = true) (e : wds l = wsOf w x h) : reading l = some (w, x, h) := by
  unfold reading
  rw [e]
  unfold wsOf
  dsimp only
  by_cases hw : w = DROP
  · subst hw
    obtain ⟨rfl, rfl⟩ := drop_fill k
    rfl
  · have hW := ways_fill hw k
    have hb := fill_limB k
    have hc := fill_halt k
    rw [if_neg (by intro z; injection z with z _; exact hw z)]
    unfold haltW
    cases x with
    | b v => simp [limB] at hb
    | no =>
      by_cases hh : h = [45]
      · simp [hh, rowsW, rd1, rd2, fin3, hW]
      · simp [hh, rowsW, rd1, rd2, fin3, hW, hr, hc]
    | i n =>
      obtain ⟨e1, e2⟩ := numb_num hb
      by_cases hh : h = [45]
      · simp [hh, rowsW, rd1, rd2, fin3, hW, e1, e2]
      · simp [hh, rowsW, rd1, rd2, fin3, hW, hr, hc, e1, e2]
theorem stepOf_wsOf {l w h : List Nat} {x : Lm} (k : isFill w x h = true) (e : wds l = wsOf w x h) : stepOf l = some (w, x, h) := by
  unfold stepOf
  have e2 : txt w x h = l := by rw [← jn_wsOf, ← e, jn_wds]
  rw [e]
  unfold wsOf
  dsimp only
  rw [scan_wsOf (fill_limB k)]
  unfold ok3
  rw [if_pos ⟨k, e2⟩]
theorem stepOf_some {l w h : List Nat} {x : Lm} (k : stepOf l = some (w, x, h)) : isFill w x h = true ∧ txt w x h = l ∧ wds l = wsOf w x h := by
  unfold stepOf at k
  split at k
  · cases k
  · unfold ok3 at k
    split at k
    · rename_i hk
      cases k
      exact ⟨hk.1, hk.2, by rw [← wds_txt hk.1, hk.2]⟩
    · cases k
theorem rd1_some {ws : List (List Nat)} : ∃ x, (rd1 ws).1 = x ∧ limB x = true ∧ ws = rowsW x ++ (rd1 ws).2 := by
  match ws with
  | [] => exact ⟨.no, rfl, rfl, rfl⟩
  | [a] => exact ⟨.no, rfl, rfl, rfl⟩
  | a :: b :: r =>
    rw [rd1_two]
    by_cases h : a = RW ∧ b ∈ NUMS
    · obtain ⟨k, e1, e2, e3⟩ := numb_in h.2
      rw [if_pos h]
      exact ⟨.i k, e1, e2, by rw [h.1]; simp [rowsW, ← e3]⟩
    · rw [if_neg h]
      exact ⟨.no, rfl, rfl, rfl⟩
theorem rd2_some {ws : List (List Nat)} (h : (rd2 ws).2 = []) : isHalt (rd2 ws).1 = true ∧ ws = haltW (rd2 ws).1 := by
  match ws, h with
  | [], _ => exact ⟨by decide, rfl⟩
  | [a], h => simp [rd2] at h
  | a :: b :: r, h =>
    rw [rd2_two] at h ⊢
    by_cases hc : a = HA ∧ b ≠ [45] ∧ isHalt b = true
    · rw [if_pos hc] at h ⊢
      have h' : r = [] := h
      exact ⟨hc.2.2, by rw [hc.1, h']; simp [haltW, hc.2.1]⟩
    · rw [if_neg hc] at h
      cases h
theorem reading_some {l w h : List Nat} {x : Lm} (k : reading l = some (w, x, h)) : isFill w x h = true ∧ wds l = wsOf w x h := by
  unfold reading at k
  split at k
  · cases k
  · rename_i v ws e
    by_cases hd : v :: ws = [DROP]
    · rw [if_pos hd] at k
      cases k
      exact ⟨by decide, by rw [e, hd]; rfl⟩
    · rw [if_neg hd] at k
      unfold fin3 at k
      split at k
      · cases k
      · rename_i hc
        have h1 : (rd2 (rd1 ws).2).2 = [] := by
          by_cases z : (rd2 (rd1 ws).2).2 = []
          · exact z
          · exact absurd (.inl z) hc
        have h2 : v ∈ WAYS := by
          by_cases z : v ∈ WAYS
          · exact z
          · exact absurd (.inr z) hc
        obtain ⟨x', e1, e2, e3⟩ := rd1_some (ws := ws)
        obtain ⟨e4, e5⟩ := rd2_some h1
        cases k
        rw [e1]
        refine ⟨?_, ?_⟩
        · simp only [isFill, Bool.or_eq_true, Bool.and_eq_true, decide_eq_true_eq]
          exact .inr ⟨h2, e2, e4⟩
        · rw [e]
          unfold wsOf
          rw [← e5, ← e3]
theorem step_reading (l : List Nat) : stepOf l = reading l := by
  cases h : reading l with
  | some s =>
    obtain ⟨w, x, h'⟩ := s
    obtain ⟨a, b⟩ := reading_some h
    exact stepOf_wsOf a b
  | none =>
    cases h2 : stepOf l with
    | none => rfl
    | some s =>
      obtain ⟨w, x, h'⟩ := s
      obtain ⟨a, _, c⟩ := stepOf_some h2
      rw [reading_wsOf a c] at h
      cases h
end W19
namespace W19
open PySem PySem.Spec PyProof.Rows L2 ClX ItX Mi
section
variable {st s : Sto}
/-! ### the program's reading -/
def tabN : List (Str × D) := [("1", (D.int 1)), ("2", (D.int 2)), ("3", (D.int 3)), ("4", (D.int 4)), ("5", (D.int 5)), ("6", (D.int 6))]
theorem numb_look (b : List Nat) : (tabN.lookup ⟨b.toArray⟩).getD (.int 0) = (numb b).d := by
  have e : ∀ c : List Nat, ((⟨b.toArray⟩ : Str) == ⟨c.toArray⟩) = decide (b = c) := fun c => eqv_str b c
  unfold tabN numb
  simp only [List.lookup, lit_1, lit_2, lit_3, lit_4, lit_5, lit_6, e]
  by_cases h1 : b = [49]
  · simp [h1, Lm.d]
  · by_cases h2 : b = [50]
    · simp [h2, Lm.d]
    · by_cases h3 : b = [51]
      · simp [h3, Lm.d]
      · by_cases h4 : b = [52]
        · simp [h4, Lm.d]
        · by_cases h5 : b = [53]
          · simp [h5, Lm.d]
          · by_cases h6 : b = [54]
            · simp [h6, Lm.d]
            · simp [h1, h2, h3, h4, h5, h6, Lm.d]
noncomputable def bodyT : SM := (sSeq (sIf (tVal tru0 (eOp eq1 (eVar 5) (eC (.str "rows")))) (sSet 3 (eKGet tabN (eVar 6) (eC (.int 0)))) sNil)
  (sIf (tVal tru0 (eOp eq1 (eVar 5) (eC (.str "halt")))) (sSet 4 (eVar 6)) sNil))
theorem turn_T {E0 E1 E2 x7 : Slot} {x : Lm} {h a b : List Nat} : bodyT [E0, E1, E2, .sh x.d, .sh (S h), .sh (S a), .sh (S b), x7] st = .nx [E0, E1, E2, .sh (if a = RW then numb b else x).d, .sh (S (if a = HA then b else h)), .sh (S a), .sh (S b), x7] st := by
  have e := numb_look b
  by_cases h1 : a = RW
  · have h2 : ¬ RW = HA := rh
    simp [bodyT, lit_rows, lit_halt, Str_inj, h1, h2, e]
  · by_cases h2 : a = HA
    · have h1' : ¬ HA = RW := hr
      simp [bodyT, lit_rows, lit_halt, Str_inj, h2, h1']
    · simp [bodyT, lit_rows, lit_halt, Str_inj, h1, h2]
theorem loop_T {E0 E1 E2 x7 : Slot} : ∀ (ws : List (List Nat)) (s : Lm × List Nat) (x5 x6 : Slot), ∃ y5 y6, forLoop (gA [gN 5, gN 6]) bodyT (zipL (every2 (ws.map S)) (every2 ((ws.map S).drop 1))) [E0, E1, E2, .sh s.1.d, .sh (S s.2), x5, x6, x7] st = .nx [E0, E1, E2, .sh (scan ws s).1.d, .sh (S (scan ws s).2), y5, y6, x7] st
  | [], s, x5, x6 => ⟨x5, x6, rfl⟩
  | [a], s, x5, x6 => ⟨x5, x6, rfl⟩
  | a :: b :: r, s, x5, x6 => by
    obtain ⟨y5, y6, e⟩ := loop_T r (if a = RW then numb b else s.1, if a = HA then b else s.2) (.sh (S a)) (.sh (S b))
    refine ⟨y5, y6, ?_⟩
    have z : zipL (every2 ((a :: b :: r).map S)) (every2 (((a :: b :: r).map S).drop 1)) = .tup [S a, S b] :: zipL (every2 (r.map S)) (every2 ((r.map S).drop 1)) := by
      have : ((a :: b :: r).map S).drop 1 = S b :: r.map S := rfl
      rw [this, every2_cons]
      rfl
    rw [z, forLoop_cons]
    show (bodyT [E0, E1, E2, .sh s.1.d, .sh (S s.2), .sh (S a), .sh (S b), x7] st).loop _ = _
    rw [turn_T, loop_nx]
    exact e
theorem jn_len : ∀ {ws : List (List Nat)} {w : List Nat}, w ∈ ws → w.length ≤ (jn ws).length
  | [], _, h => by simp at h
  | [v], w, h => by rw [List.mem_singleton.mp h]; exact Nat.le_refl _
  | v :: x :: ws, w, h => by
    rw [jn_cons (w := v) (ws := x :: ws) (by simp), List.length_append, List.length_cons]
    rcases List.mem_cons.mp h with z | z
    · rw [z]; omega
    · have := jn_len z; omega
theorem wds_short {l w : List Nat} (h : w ∈ wds l) : w.length ≤ l.length := by
  have := jn_len h
  rwa [jn_wds] at this
theorem scan_mem : ∀ (ws : List (List Nat)) (s : Lm × List Nat), (scan ws s).2 ∈ s.2 :: ws
  | [], s => by simp [scan]
  | [a], s => by simp [scan]
  | a :: b :: r, s => by
    have := scan_mem r (if a = RW then numb b else s.1, if a = HA then b else s.2)
    rw [scan]
    rcases List.mem_cons.mp this with z | z
    · rw [z]
      dsimp only
      split <;> simp
    · exact List.mem_cons_of_mem _ (List.mem_cons_of_mem _ (List.mem_cons_of_mem _ z))
def resD : Option (List Nat × Lm × List Nat) → D
  | none => .non
  | some (w, x, h) => T3 w x h
theorem hb_step_of : b_step_of = sSeq (sUnpS (gN 1) (gN 2) (eBm "str" splitD (eVar 0) (aCons (eC (.str " ")) aNil)))
  (sSeq (sSet 3 (eC .non))
  (sSeq (sSet 4 (eC (.str "-")))
  (sSeq (sFor (iZipO [] (aCons (eUn (ev2D 0) (eVar 2)) (aCons (eUn (ev2D 1) (eVar 2)) aNil))) (gA [(gN 5), (gN 6)]) bodyT)
  (sSeq (sSet 7 (eTup (aCons (eVar 1) (aCons (eVar 3) (aCons (eVar 4) aNil)))))
  (sRet (eIf (tAndM (tVal tru0 (eCall (mCall 1 [] m_is_fill_step) (aCons (eVar 7) aNil))) (tVal tru0 (eOp eq1 (eCall (mCall 1 [] m_fill_text) (aCons (eVar 7) aNil)) (eVar 0)))) (eVar 7) (eC .non))))))) := rfl
theorem step_of_eq {l : List Nat} (hl : l.length ≤ 300) (ho : Ok l) : m_step_of [S l] st = .ok (resD (stepOf l)) st := by
  have e1 := splitD_wds (st := st) (l := l) (by omega)
  have hO := wds_ok ho
  have hS : ∀ w ∈ wds l, w.length ≤ l.length := fun w hw => wds_short hw
  unfold stepOf
  cases hw : wds l with
  | nil => exact absurd hw (wds_ne l)
  | cons w ws =>
    rw [hw] at e1 hO hS
    rw [List.map_cons] at e1
    dsimp only
    obtain ⟨y5, y6, e2⟩ := loop_T (st := st) (E0 := .sh (S l)) (E1 := .sh (S w)) (E2 := .sh (.lst (ws.map S))) (x7 := .no) ws (.no, [45]) .no .no
    have hm := scan_mem ws (.no, [45])
    generalize scan ws (.no, [45]) = s at e2 hm
    obtain ⟨x, h⟩ := s
    dsimp only at e2 hm
    have hw' := hO w (List.mem_cons_self ..)
    have hwl := hS w (List.mem_cons_self ..)
    have hh : Ok h ∧ h.length ≤ 300 := by
      rcases List.mem_cons.mp hm with z | z
      · rw [z]; exact ⟨ok_dash, by decide⟩
      · exact ⟨hO h (List.mem_cons_of_mem _ z), Nat.le_trans (hS h (List.mem_cons_of_mem _ z)) hl⟩
    have e3 := fill_eq (st := st) (x := x) hw' hh.1
    have e0 : forLoop (gA [gN 5, gN 6]) bodyT (zipL (every2 (ws.map S)) (every2 (ws.map S).tail)) [.sh (S l), .sh (S w), .sh (.lst (ws.map S)), .sh .non, .sh (S [45]), .no, .no, .no] st = .nx [.sh (S l), .sh (S w), .sh (.lst (ws.map S)), .sh x.d, .sh (S h), y5, y6, .no] st := by rw [List.drop_one] at e2; exact e2
    have t2 : (D.str " ") = D.str " " := rfl
    cases hf : isFill w x h with
    | false =>
      rw [hf] at e3
      have hn : ok3 l w (x, h) = none := by unfold ok3; simp [hf]
      rw [hn]
      simp [LIM, m_step_of, runBody_app, hb_step_of, env0, ↓e1, ↓e0, ↓e3, lit_dash, resD]
    | true =>
      rw [hf] at e3
      have e4 := fill_text_eq (st := st) (w := w) (l := h) (x := x) (by omega) hh.2 (fill_limB hf)
      by_cases ht : txt w x h = l
      · have hn : ok3 l w (x, h) = some (w, x, h) := by unfold ok3; simp [hf, ht]
        rw [hn]
        simp [LIM, m_step_of, runBody_app, hb_step_of, env0, ↓e1, ↓e0, ↓e3, ↓e4, lit_dash, resD, Str_inj, ht]
      · have hn : ok3 l w (x, h) = none := by unfold ok3; simp [hf, ht]
        rw [hn]
        simp [LIM, m_step_of, runBody_app, hb_step_of, env0, ↓e1, ↓e0, ↓e3, ↓e4, lit_dash, resD, Str_inj, ht]
theorem read_eq {l : List Nat} (hl : l.length ≤ 300) (ho : Ok l) : m_read_fill [S l] st = (match stepOf l with
    | none => .exc 4 [("at", .int 0)] st
    | some (w, x, h) => .ok (T3 w x h) st) := by
  have e := step_of_eq (st := st) hl ho
  cases h : stepOf l with
  | none =>
    rw [h] at e
    have e' : m_step_of [S l] st = .ok .non st := e
    simp [LIM, m_read_fill, runBody_app, b_read_fill, env0, ↓e', xfs]
  | some q =>
    obtain ⟨w, x, h'⟩ := q
    rw [h] at e
    have e' : m_step_of [S l] st = .ok (T3 w x h') st := e
    have q : isD false (T3 w x h') .non st = .ok (.bl false) st := rfl
    simp [LIM, m_read_fill, runBody_app, b_read_fill, env0, ↓e', ↓q]
end
end W19
namespace W19
open PySem PySem.Spec PyProof.Rows L2 ClX ItX Mi
section
variable {st s : Sto}
/-! ### the law's reading -/
theorem sl_to {k : Nat} {xs : List D} (h : k ≤ xs.length ∨ k = 1) : slD (.lst xs) none (some (k : Int)) st = .ok (.lst (xs.take k)) st := by
  show Res.ok (D.lst (Mi.cutD xs none (some (k : Int)))) st = _
  unfold Mi.cutD
  rw [HT.sIx_none, HT.sIx_nat, List.drop_zero, Nat.sub_zero]
  congr 2
  rcases Nat.lt_or_ge xs.length k with z | z
  · rw [Nat.min_eq_right (by omega), List.take_of_length_le (Nat.le_refl _), List.take_of_length_le (by omega)]
  · rw [Nat.min_eq_left z]
theorem sl_from {k : Nat} {xs : List D} : slD (.lst xs) (some (k : Int)) none st = .ok (.lst (xs.drop k)) st := by
  show Res.ok (D.lst (Mi.cutD xs (some (k : Int)) none)) st = _
  unfold Mi.cutD
  rw [HT.sIx_none, HT.sIx_nat]
  congr 2
  rcases Nat.lt_or_ge xs.length k with z | z
  · rw [Nat.min_eq_right (by omega), Nat.sub_self, List.take_zero, List.drop_of_length_le (by omega)]
  · rw [Nat.min_eq_left z, List.take_of_length_le (by rw [List.length_drop]; omega)]
theorem sl_to1 {xs : List D} : slD (.lst xs) none (some 1) st = .ok (.lst (xs.take 1)) st := sl_to (k := 1) (.inr rfl)
theorem sl_from1 {xs : List D} : slD (.lst xs) (some 1) none st = .ok (.lst (xs.drop 1)) st := sl_from (k := 1)
theorem sl_from2 {xs : List D} : slD (.lst xs) (some 2) none st = .ok (.lst (xs.drop 2)) st := sl_from (k := 2)
noncomputable def if1 : SM := (sIf (tAndM (tVal tru0 (eOp eq1 (eSl slD (eVar 4) pNone (pSome (eC (.int 1)))) (eL (lLst (aCons (eC (.str "rows")) aNil))))) (tAndM (tVal tru0 (eOp (cmpI fun i j => decide (j < i)) (eCall (lenD []) (aCons (eVar 4) aNil)) (eC (.int 1)))) (tVal tru0 (eOp isin2 (eOp ixD (eVar 4) (eC (.int 1))) (eL (lLst (aCons (eC (.str "1")) (aCons (eC (.str "2")) (aCons (eC (.str "3")) (aCons (eC (.str "4")) (aCons (eC (.str "5")) (aCons (eC (.str "6")) aNil)))))))))))) (sSeq (sSet 2 (eCall intD (aCons (eOp ixD (eVar 4) (eC (.int 1))) aNil)))
  (sSet 4 (eSl slD (eVar 4) (pSome (eC (.int 2))) pNone))) sNil)
noncomputable def if2 : SM := (sIf (tAndM (tVal tru0 (eOp eq1 (eSl slD (eVar 4) pNone (pSome (eC (.int 1)))) (eL (lLst (aCons (eC (.str "halt")) aNil))))) (tAndM (tVal tru0 (eOp (cmpI fun i j => decide (j < i)) (eCall (lenD []) (aCons (eVar 4) aNil)) (eC (.int 1)))) (tAndM (tVal tru0 (eOp neD (eOp ixD (eVar 4) (eC (.int 1))) (eC (.str "-")))) (tVal tru0 (eCall (mCall 1 [] m_law_set) (aCons (eOp ixD (eVar 4) (eC (.int 1))) aNil)))))) (sSeq (sSet 3 (eOp ixD (eVar 4) (eC (.int 1))))
  (sSet 4 (eSl slD (eVar 4) (pSome (eC (.int 2))) pNone))) sNil)
theorem ok_one {a : List Nat} (h : Ok a) : ∀ l ∈ [a], Ok l := fun l hl => by rw [List.mem_singleton.mp hl]; exact h
theorem ok_none : ∀ l ∈ ([] : List (List Nat)), Ok l := fun l hl => by simp at hl
theorem ok_rw : Ok RW := by unfold Ok; decide
theorem ok_ha : Ok HA := by unfold Ok; decide
theorem eq_nil {a : List Nat} (h : Ok a) : eq1 (.lst []) (.lst [S a]) st = .ok (.bl false) st := (eqD_Ss ok_none (ok_one h)).trans (by simp)
theorem eq_one {a b : List Nat} (h : Ok a) (k : Ok b) : eq1 (.lst [S a]) (.lst [S b]) st = .ok (.bl (decide (a = b))) st := (eqD_Ss (ok_one h) (ok_one k)).trans (by simp)
theorem in_nums {b : List Nat} (h : Ok b) : isin2 (S b) (.lst [S [49], S [50], S [51], S [52], S [53], S [54]]) st = .ok (.bl (decide (b ∈ NUMS))) st := (inX_Ss (ls := NUMS) h nums_ok).trans (by simp)
theorem int_num {b : List Nat} (h : b ∈ NUMS) : Mi.intD [S b] st = .ok (numb b).d st := by
  have key : ∀ (b : List Nat) (n : Int), PySem.intText? ⟨b.toArray⟩ = some n → b.length = 1 → Mi.intD [S b] st = .ok (.int n) st := fun b n e hl => by
    unfold Mi.intD
    dsimp only
    rw [e]
    dsimp only
    rw [if_pos (by rw [S_len, hl]; decide)]
  simp only [NUMS, List.mem_cons, List.not_mem_nil, or_false] at h
  rcases h with rfl | rfl | rfl | rfl | rfl | rfl
  · exact key [49] 1 (by decide +kernel) rfl
  · exact key [50] 2 (by decide +kernel) rfl
  · exact key [51] 3 (by decide +kernel) rfl
  · exact key [52] 4 (by decide +kernel) rfl
  · exact key [53] 5 (by decide +kernel) rfl
  · exact key [54] 6 (by decide +kernel) rfl
theorem gt_len {n : Nat} : (decide ((1 : Int) < ((n + 1 + 1 : Nat) : Int))) = true := by
  rw [decide_eq_true_eq]; omega
theorem if1_eq {E0 E1 h : Slot} {x : Lm} (hx : x = .no) {ws : List (List Nat)} (ho : ∀ w ∈ ws, Ok w) : if1 [E0, E1, .sh x.d, h, .sh (.lst (ws.map S))] st = .nx [E0, E1, .sh (rd1 ws).1.d, h, .sh (.lst ((rd1 ws).2.map S))] st := by
  subst hx
  match ws, ho with
  | [], _ =>
    have e := eq_nil (st := st) ok_rw
    simp [LIM, if1, lit_rows, ↓sl_to1, ↓e, rd1]
  | [a], ho =>
    have e := eq_one (st := st) (ho a (List.mem_cons_self ..)) ok_rw
    by_cases h : a = RW
    · rw [decide_eq_true h] at e
      simp [LIM, if1, lit_rows, ↓sl_to1, ↓e, rd1]
    · rw [decide_eq_false h] at e
      simp [LIM, if1, lit_rows, ↓sl_to1, ↓e, rd1]
  | a :: b :: r, ho =>
    have e := eq_one (st := st) (ho a (List.mem_cons_self ..)) ok_rw
    have hb := ho b (List.mem_cons_of_mem _ (List.mem_cons_self ..))
    have e2 := in_nums (st := st) hb
    rw [rd1_two]
    by_cases h : a = RW
    · rw [decide_eq_true h] at e
      by_cases h2 : b ∈ NUMS
      · rw [decide_eq_true h2] at e2
        have e3 := int_num (st := st) h2
        rw [if_pos ⟨h, h2⟩]
        have g : (1 : Int) < (r.length : Int) + 1 + 1 := by omega
        simp [LIM, if1, lit_rows, lit_1, lit_2, lit_3, lit_4, lit_5, lit_6, ↓sl_to1, ↓sl_from2, ↓e, ↓e2, ↓e3, g]
      · rw [decide_eq_false h2] at e2
        rw [if_neg (fun z => h2 z.2)]
        have g : (1 : Int) < (r.length : Int) + 1 + 1 := by omega
        simp [LIM, if1, lit_rows, lit_1, lit_2, lit_3, lit_4, lit_5, lit_6, ↓sl_to1, ↓sl_from2, ↓e, ↓e2, g]
    · rw [decide_eq_false h] at e
      rw [if_neg (fun z => h z.1)]
      simp [LIM, if1, lit_rows, ↓sl_to1, ↓e]
theorem if2_eq {E0 E1 x : Slot} {ws : List (List Nat)} (ho : ∀ w ∈ ws, Ok w) : if2 [E0, E1, x, .sh (S [45]), .sh (.lst (ws.map S))] st = .nx [E0, E1, x, .sh (S (rd2 ws).1), .sh (.lst ((rd2 ws).2.map S))] st := by
  match ws, ho with
  | [], _ =>
    have e := eq_nil (st := st) ok_ha
    simp [LIM, if2, lit_halt, ↓sl_to1, ↓e, rd2]
  | [a], ho =>
    have e := eq_one (st := st) (ho a (List.mem_cons_self ..)) ok_ha
    by_cases h : a = HA
    · rw [decide_eq_true h] at e
      simp [LIM, if2, lit_halt, ↓sl_to1, ↓e, rd2]
    · rw [decide_eq_false h] at e
      simp [LIM, if2, lit_halt, ↓sl_to1, ↓e, rd2]
  | a :: b :: r, ho =>
    have e := eq_one (st := st) (ho a (List.mem_cons_self ..)) ok_ha
    have e2 := set_eq (st := st) b
    have g : (1 : Int) < (r.length : Int) + 1 + 1 := by omega
    rw [rd2_two]
    by_cases h : a = HA
    · rw [decide_eq_true h] at e
      by_cases h2 : b = [45]
      · rw [if_neg (fun z => z.2.1 h2)]
        subst h2
        simp [LIM, if2, lit_halt, lit_dash, ↓sl_to1, ↓sl_from2, ↓e, g]
      · cases h3 : isHalt b with
        | true =>
          rw [h3] at e2
          rw [if_pos ⟨h, h2, rfl⟩]
          simp [LIM, if2, lit_halt, lit_dash, ↓sl_to1, ↓sl_from2, ↓e, ↓e2, g, Str_inj, h2]
        | false =>
          rw [h3] at e2
          rw [if_neg (fun z => by cases z.2.2)]
          simp [LIM, if2, lit_halt, lit_dash, ↓sl_to1, ↓sl_from2, ↓e, ↓e2, g, Str_inj, h2]
    · rw [decide_eq_false h] at e
      rw [if_neg (fun z => h z.1)]
      simp [LIM, if2, lit_halt, ↓sl_to1, ↓e]
theorem hb_reading : b_law_reading = (sSeq (sSet 1 (eBm "str" splitD (eVar 0) (aCons (eC (.str " ")) aNil)))
  (sSeq (sIf (tVal tru0 (eOp eq1 (eVar 1) (eL (lLst (aCons (eC (.str "drop")) aNil))))) (sRet (eTup (aCons (eC (.str "drop")) (aCons (eC .non) (aCons (eC (.str "-")) aNil))))) sNil)
  (sSeq (sSet 2 (eC .non))
  (sSeq (sSet 3 (eC (.str "-")))
  (sSeq (sSet 4 (eSl slD (eVar 1) (pSome (eC (.int 1))) pNone))
  (sSeq if1
  (sSeq if2
  (sSeq (sIf (tOrM (tVal tru0 (eOp neD (eVar 4) (eL (lLst aNil)))) (tVal tru0 (eOp nin4 (eOp ixD (eVar 1) (eC (.int 0))) (eL (lLst (aCons (eC (.str "down")) (aCons (eC (.str "up")) (aCons (eC (.str "near_above")) (aCons (eC (.str "near_below")) aNil))))))))) (sRet (eC .non)) sNil)
  (sRet (eTup (aCons (eOp ixD (eVar 1) (eC (.int 0))) (aCons (eVar 2) (aCons (eVar 3) aNil))))))))))))) := rfl
theorem rd1_ok {ws : List (List Nat)} (h : ∀ w ∈ ws, Ok w) : ∀ w ∈ (rd1 ws).2, Ok w := by
  match ws, h with
  | [], h => exact h
  | [a], h => exact h
  | a :: b :: r, h =>
    rw [rd1_two]
    split
    · exact fun w hw => h w (List.mem_cons_of_mem _ (List.mem_cons_of_mem _ hw))
    · exact h
theorem rd2_ok {ws : List (List Nat)} (h : ∀ w ∈ ws, Ok w) : ∀ w ∈ (rd2 ws).2, Ok w := by
  match ws, h with
  | [], h => exact h
  | [a], h => exact h
  | a :: b :: r, h =>
    rw [rd2_two]
    split
    · exact fun w hw => h w (List.mem_cons_of_mem _ (List.mem_cons_of_mem _ hw))
    · exact h
theorem ne_nil {ws : List (List Nat)} (h : ∀ w ∈ ws, Ok w) : neD (.lst (ws.map S)) (.lst []) st = .ok (.bl (!decide (ws = []))) st := neD_Ss h ok_none
theorem reading_eq {l : List Nat} (hl : l.length ≤ 300) (ho : Ok l) : m_law_reading [S l] st = .ok (resD (reading l)) st := by
  have e1 := splitD_wds (st := st) (l := l) (by omega)
  have hO := wds_ok ho
  unfold reading
  cases hw : wds l with
  | nil => exact absurd hw (wds_ne l)
  | cons w ws =>
    rw [hw] at e1 hO
    dsimp only
    have e2 : eq1 (.lst ((w :: ws).map S)) (.lst [S DROP]) st = .ok (.bl (decide (w :: ws = [DROP]))) st := eqD_Ss hO (ok_one ok_drop)
    rw [List.map_cons] at e1 e2
    by_cases h1 : w :: ws = [DROP]
    · rw [decide_eq_true h1] at e2
      rw [if_pos h1]
      simp [LIM, m_law_reading, runBody_app, hb_reading, env0, ↓e1, ↓e2, lit_drop, lit_dash, resD]
      rfl
    · rw [decide_eq_false h1] at e2
      rw [if_neg h1]
      have hws : ∀ v ∈ ws, Ok v := fun v hv => hO v (List.mem_cons_of_mem _ hv)
      have e3 : if1 [.sh (S l), .sh (.lst (S w :: ws.map S)), .sh .non, .sh (S [45]), .sh (.lst (ws.map S))] st = _ := if1_eq (st := st) (E0 := .sh (S l)) (E1 := .sh (.lst (S w :: ws.map S))) (h := .sh (S [45])) (x := .no) rfl hws
      have k1 := rd1_ok hws
      obtain ⟨x', q1, q2, q3⟩ := rd1_some (ws := ws)
      generalize rd1 ws = p1 at e3 k1 q1 q3
      obtain ⟨x, r1⟩ := p1
      dsimp only at e3 k1 q1 q3 ⊢
      have e4 := if2_eq (st := st) (E0 := .sh (S l)) (E1 := .sh (.lst (S w :: ws.map S))) (x := .sh x.d) k1
      have k2 := rd2_ok k1
      generalize rd2 r1 = p2 at e4 k2
      obtain ⟨h, r2⟩ := p2
      dsimp only at e4 k2 ⊢
      have e5 := ne_nil (st := st) k2
      have e6 := nin_ways (st := st) (hO w (List.mem_cons_self ..))
      unfold fin3
      dsimp only
      by_cases h2 : r2 = []
      · rw [decide_eq_true h2] at e5
        by_cases h3 : w ∈ WAYS
        · rw [decide_eq_true h3] at e6
          rw [if_neg (by simp [h2, h3])]
          simp [LIM, m_law_reading, runBody_app, hb_reading, env0, ↓e1, ↓e2, ↓sl_from1, ↓e3, ↓e4, ↓e5, ↓e6, lit_drop, lit_dash, lit_down, lit_up, lit_na, lit_nb, resD]
        · rw [decide_eq_false h3] at e6
          rw [if_pos (.inr h3)]
          simp [LIM, m_law_reading, runBody_app, hb_reading, env0, ↓e1, ↓e2, ↓sl_from1, ↓e3, ↓e4, ↓e5, ↓e6, lit_drop, lit_dash, lit_down, lit_up, lit_na, lit_nb, resD]
      · rw [decide_eq_false h2] at e5
        rw [if_pos (.inl h2)]
        simp [LIM, m_law_reading, runBody_app, hb_reading, env0, ↓e1, ↓e2, ↓sl_from1, ↓e3, ↓e4, ↓e5, lit_drop, lit_dash, resD]
end
end W19
namespace W19
open PySem PySem.Spec PyProof.Rows L2 ClX ItX Mi
section
variable {st s : Sto}
/-! ### every text is read as the law reads it -/
theorem reads_eq {l : List Nat} (hl : l.length ≤ 300) (ho : Ok l) : m_law_reads [S l] st = .ok (.bl true) st := by
  have e1 := reading_eq (st := st) hl ho
  have e2 := read_eq (st := st) hl ho
  rw [step_reading] at e2
  cases h : reading l with
  | none =>
    rw [h] at e1 e2
    have e1' : m_law_reading [S l] st = .ok .non st := e1
    have e2' : m_read_fill [S l] st = .exc 4 [("at", .int 0)] st := e2
    have e4 : m_law_whole [.int 0] st = .ok (.bl true) st := whole_eq (.i 0)
    simp [LIM, m_law_reads, runBody_app, b_law_reads, env0, ↓e1', ↓e2', subL, List.lookup, ↓e4]
  | some q =>
    obtain ⟨w, x, h'⟩ := q
    rw [h] at e1 e2
    have e1' : m_law_reading [S l] st = .ok (T3 w x h') st := e1
    have e2' : m_read_fill [S l] st = .ok (T3 w x h') st := e2
    obtain ⟨k, e⟩ := reading_some h
    have ht : txt w x h' = l := by rw [← jn_wsOf, ← e, jn_wds]
    have hw : Ok w ∧ w.length ≤ 300 := by
      have : w ∈ wds l := by rw [e]; exact List.mem_cons_self ..
      exact ⟨wds_ok ho w this, Nat.le_trans (wds_short this) hl⟩
    have hh : Ok h' ∧ h'.length ≤ 300 := by
      by_cases z : h' = [45]
      · rw [z]; exact ⟨ok_dash, by decide⟩
      · have : h' ∈ wds l := by rw [e]; simp [wsOf, haltW, z]
        exact ⟨wds_ok ho h' this, Nat.le_trans (wds_short this) hl⟩
    have e3 := is_step_eq (st := st) hw.1 hh.1 (fill_notb k)
    have e4 := fill_text_eq (st := st) hw.2 hh.2 (fill_limB k)
    have q1 : isD false (T3 w x h') .non st = .ok (.bl false) st := rfl
    rw [ht] at e4
    simp [LIM, m_law_reads, runBody_app, b_law_reads, env0, ↓e1', ↓e2', ↓q1, ↓e3, ↓e4, List.lookup]
/-! ### what is drawn -/
def chk (n : Nat) : D → Bool
  | .str z => z.cps.toList.all (fun c => decide (c < 0x110000)) && decide (z.cps.toList.length ≤ n)
  | _ => false
def Tx (d : D) (n : Nat) : Prop := ∃ l, d = S l ∧ Ok l ∧ l.length ≤ n
theorem tx_chk {d : D} {n : Nat} (h : chk n d = true) : Tx d n := by
  cases d with
  | str z =>
    simp only [chk, Bool.and_eq_true, List.all_eq_true, decide_eq_true_eq] at h
    exact ⟨z.cps.toList, rfl, fun c hc => h.1 c hc, h.2⟩
  | _ => cases h
theorem pick_tx {L : List D} {n : Nat} (hl : 0 < L.length) (h2 : L.length ≤ 1000) (hc : L.all (chk n) = true) (P : Pool st s) : ∃ l, Ok l ∧ l.length ≤ n ∧ ∃ st', m_law_pick [.cell 0, .lst L] st = .ok (S l) st' ∧ Pool st' s := by
  obtain ⟨d, hd, st', e, P'⟩ := pick_eq hl h2 P
  obtain ⟨l, rfl, h1, h3⟩ := tx_chk (List.all_eq_true.mp hc d hd)
  exact ⟨l, h1, h3, st', e, P'⟩
def oddL : List D := [.str "", .str "down rows None", .str "down halt -", .str "down rows 0", .str "down rows 7", .str "down rows 01", .str "drop rows 1", .str "drop halt a", .str "down halt", .str "down rows", .str "rows 3", .str "down  rows 3", .str "down rows  3", .str "drop\n", .str "down halt a halt b", .str "up rows 2 rows 3", .str "down rows +3", .str "near above", .str "near_above rows 10", .str "down\nup", .str "halt a", .str "down rows 3 halt", .str "down 3", .str "up ab"]
theorem odd_eq (P : Pool st s) : ∃ l, Ok l ∧ l.length ≤ 30 ∧ ∃ st', m_law_odd [.cell 0] st = .ok (S l) st' ∧ Pool st' s := by
  obtain ⟨l, h1, h2, st', e, P'⟩ := pick_tx (L := oddL) (n := 30) (by decide) (by decide) (by decide +kernel) P
  refine ⟨l, h1, h2, st', ?_, P'⟩
  unfold oddL at e
  simp [LIM, m_law_odd, runBody_app, b_law_odd, env0, ↓e]
def limL : List D := [.int 3, .non, .int 1, .int 2, .int 4, .int 5, .int 6, .non, .int 0, .int 7, .int (-1), .int 1000000000000000000000000000000, .bl true, .bl false, .int (-3), .int 60]
theorem limit_drawn (P : Pool st s) : ∃ x : Lm, ∃ st', m_law_limit [.cell 0] st = .ok x.d st' ∧ Pool st' s := by
  obtain ⟨d, hd, st', e, P'⟩ := pick_eq (L := limL) (by decide) (by decide) P
  have hx : ∃ x : Lm, d = x.d := by
    simp only [limL, List.mem_cons, List.not_mem_nil, or_false] at hd
    rcases hd with rfl | rfl | rfl | rfl | rfl | rfl | rfl | rfl | rfl | rfl | rfl | rfl | rfl | rfl | rfl | rfl
    · exact ⟨.i 3, rfl⟩
    · exact ⟨.no, rfl⟩
    · exact ⟨.i 1, rfl⟩
    · exact ⟨.i 2, rfl⟩
    · exact ⟨.i 4, rfl⟩
    · exact ⟨.i 5, rfl⟩
    · exact ⟨.i 6, rfl⟩
    · exact ⟨.no, rfl⟩
    · exact ⟨.i 0, rfl⟩
    · exact ⟨.i 7, rfl⟩
    · exact ⟨.i (-1), rfl⟩
    · exact ⟨.i 1000000000000000000000000000000, rfl⟩
    · exact ⟨.b true, rfl⟩
    · exact ⟨.b false, rfl⟩
    · exact ⟨.i (-3), rfl⟩
    · exact ⟨.i 60, rfl⟩
  obtain ⟨x, rfl⟩ := hx
  refine ⟨x, st', ?_, P'⟩
  unfold limL at e
  simp [LIM, m_law_limit, runBody_app, b_law_limit, env0, ↓e]
def stopL : List D := [.str "", .str "ba", .str "aa", .str "ag", .str "A", .str "a-", .str "--", .str " ", .str "a b", .str "fa", .str "abcdefg", .str "a\n"]
theorem halt_ok3 {l : List Nat} (hl : l.Sublist ALL) : Ok (haltL l) ∧ (haltL l).length ≤ 6 := by
  unfold haltL
  split
  · exact ⟨ok_dash, by decide⟩
  · exact ⟨fun c hc => by
      have := hl.subset hc
      simp only [ALL, List.mem_cons, List.not_mem_nil, or_false] at this
      omega, hl.length_le⟩
theorem stop_eq (P : Pool st s) : ∃ l, Ok l ∧ l.length ≤ 10 ∧ ∃ st', m_law_stop [.cell 0] st = .ok (S l) st' ∧ Pool st' s := by
  obtain ⟨k, st1, e1, _, _, P1⟩ := draw_eq P (n := 4) (by decide) (by decide)
  by_cases h : k = 3
  · subst h
    obtain ⟨l, h1, h2, st', e, P'⟩ := pick_tx (L := stopL) (n := 10) (by decide) (by decide) (by decide +kernel) P1
    refine ⟨l, h1, h2, st', ?_, P'⟩
    unfold stopL at e
    simp [LIM, m_law_stop, runBody_app, b_law_stop, env0, ↓e1, ↓e]
  · obtain ⟨k2, st2, e2, _, _, P2⟩ := draw_eq P1 (n := 64) (by decide) (by decide)
    obtain ⟨l, hl, e4⟩ := letters_eq (st := st2) (b := (k2 + 5).fmod 64)
    refine ⟨haltL l, (halt_ok3 hl).1, Nat.le_trans (halt_ok3 hl).2 (by decide), st2, ?_, P2⟩
    simp [LIM, m_law_stop, runBody_app, b_law_stop, env0, ↓e1, h, ↓e2, ↓e4]
/-! ### good steps -/
theorem haltL_is {l : List Nat} (h : l.Sublist ALL) : isHalt (haltL l) = true := by
  unfold haltL
  split
  · decide
  · rename_i hn
    unfold isHalt
    rw [flt_of h, if_neg hn]
    simp
theorem way_S (w : Way) : ∃ v, D.str w.s = S v ∧ v ∈ WAYS := by
  cases w
  · exact ⟨DOWN, congrArg D.str lit_down, by decide⟩
  · exact ⟨UP, congrArg D.str lit_up, by decide⟩
  · exact ⟨NA, congrArg D.str lit_na, by decide⟩
  · exact ⟨NB, congrArg D.str lit_nb, by decide⟩
theorem ways_short : ∀ w ∈ DROP :: WAYS, Ok w ∧ w.length ≤ 10 := by unfold Ok; decide
theorem good3 {d : D} (h : StepOk d) : ∃ w x l, d = T3 w x l ∧ isFill w x l = true ∧ Ok l ∧ l.length ≤ 6 := by
  rcases h with rfl | ⟨w, lim, l, rfl, h1, h2⟩
  · refine ⟨DROP, .no, [45], ?_, by decide, ok_dash, by decide⟩
    show D.tup [.str "drop", .non, .str "-"] = _
    rw [lit_drop, lit_dash]
    rfl
  · obtain ⟨v, hv, hm⟩ := way_S w
    have hb := haltL_is h2
    have ho := halt_ok3 h2
    cases lim with
    | none =>
      refine ⟨v, .no, haltL l, ?_, ?_, ho⟩
      · show D.tup [.str w.s, .non, S (haltL l)] = _
        rw [hv]; rfl
      · simp [isFill, hm, hb, limB]
    | some k =>
      have h1' : 1 ≤ k ∧ k ≤ 6 := h1
      refine ⟨v, .i k, haltL l, ?_, ?_, ho⟩
      · show D.tup [.str w.s, .int k, S (haltL l)] = _
        rw [hv]; rfl
      · simp [isFill, hm, hb, limB, h1'.1, h1'.2]
end
end W19
namespace W19
open PySem PySem.Spec PyProof.Rows L2 ClX ItX Mi
section
variable {st s : Sto}
/-! ### parts of texts and of words -/
def slS (t : List Nat) (lo hi : Option Int) : List Nat := (t.drop (HT.sIx t.length 0 lo)).take (HT.sIx t.length t.length hi - HT.sIx t.length 0 lo)
def slW (ws : List (List Nat)) (lo hi : Option Int) : List (List Nat) := (ws.drop (HT.sIx ws.length 0 lo)).take (HT.sIx ws.length ws.length hi - HT.sIx ws.length 0 lo)
theorem slS_eq {t : List Nat} (h : t.length ≤ 1000) {lo hi : Option Int} : slD (S t) lo hi st = .ok (S (slS t lo hi)) st := by
  show (if (⟨t.toArray⟩ : Str).length ≤ LIM then Res.ok (D.str (L2.cutS ⟨t.toArray⟩ lo hi)) st else .bad) = _
  rw [if_pos (by rw [S_len]; simp only [LIM]; omega)]
  unfold L2.cutS slS
  rw [S_len]
theorem slW_eq {ws : List (List Nat)} {lo hi : Option Int} : slD (.lst (ws.map S)) lo hi st = .ok (.lst ((slW ws lo hi).map S)) st := by
  show Res.ok (D.lst (Mi.cutD (ws.map S) lo hi)) st = _
  unfold Mi.cutD slW
  rw [List.length_map, List.map_take, List.map_drop]
theorem slS_sub (t : List Nat) (lo hi : Option Int) : (slS t lo hi).length ≤ t.length ∧ ∀ c ∈ slS t lo hi, c ∈ t :=
  ⟨Nat.le_trans (List.length_take_le' ..) (by rw [List.length_drop]; omega), fun c hc => List.mem_of_mem_drop (List.mem_of_mem_take hc)⟩
theorem slW_sub (ws : List (List Nat)) (lo hi : Option Int) : (slW ws lo hi).length ≤ ws.length ∧ ∀ c ∈ slW ws lo hi, c ∈ ws :=
  ⟨Nat.le_trans (List.length_take_le' ..) (by rw [List.length_drop]; omega), fun c hc => List.mem_of_mem_drop (List.mem_of_mem_take hc)⟩
theorem slS_ok {t : List Nat} (h : Ok t) {lo hi : Option Int} : Ok (slS t lo hi) := fun c hc => h c ((slS_sub t lo hi).2 c hc)
theorem jn_ok : ∀ {ws : List (List Nat)}, (∀ w ∈ ws, Ok w) → Ok (jn ws)
  | [], _ => Ok.nil
  | [w], h => h w (List.mem_cons_self ..)
  | w :: v :: ws, h => by
    rw [jn_cons (w := w) (ws := v :: ws) (by simp)]
    refine (h w (List.mem_cons_self ..)).append fun c hc => ?_
    rcases List.mem_cons.mp hc with z | z
    · rw [z]; decide
    · exact jn_ok (fun x hx => h x (List.mem_cons_of_mem _ hx)) c z
theorem jn_bound {n : Nat} : ∀ {ws : List (List Nat)}, (∀ w ∈ ws, w.length ≤ n) → (jn ws).length ≤ (n + 1) * ws.length
  | [], _ => Nat.zero_le _
  | [w], h => by
    have := h w (List.mem_cons_self ..)
    show w.length ≤ _
    simp
    omega
  | w :: v :: ws, h => by
    have a := h w (List.mem_cons_self ..)
    have b := jn_bound (ws := v :: ws) fun x hx => h x (List.mem_cons_of_mem _ hx)
    rw [jn_cons (w := w) (ws := v :: ws) (by simp), List.length_append, List.length_cons]
    rw [List.length_cons (a := w), Nat.mul_succ]
    omega
theorem sum_bound {n : Nat} : ∀ {ws : List (List Nat)}, (∀ w ∈ ws, w.length ≤ n) → ((ws.map fun l => (⟨l.toArray⟩ : Str)).map (·.length)).sum ≤ n * ws.length
  | [], _ => Nat.zero_le _
  | w :: ws, h => by
    have a := h w (List.mem_cons_self ..)
    have b := sum_bound (ws := ws) fun x hx => h x (List.mem_cons_of_mem _ hx)
    rw [List.map_cons, List.map_cons, List.sum_cons, S_len, List.length_cons, Nat.mul_succ]
    omega
theorem strsOf_S : ∀ ws : List (List Nat), strsOf (ws.map S) = some (ws.map fun l => ⟨l.toArray⟩)
  | [] => rfl
  | w :: ws => by
    rw [List.map_cons, strsOf, strsOf_S ws]
    rfl
theorem joinL_jn : ∀ ws : List (List Nat), TL.joinL [32] ws = jn ws
  | [] => rfl
  | [w] => rfl
  | w :: v :: ws => by
    rw [TL.joinL, joinL_jn (v :: ws), jn_cons (w := w) (ws := v :: ws) (by simp)]
    simp
theorem join_jn (ws : List (List Nat)) : Txt.join ⟨#[32]⟩ (ws.map fun l => ⟨l.toArray⟩) = ⟨(jn ws).toArray⟩ := by
  have e := SX.join_S [32] ws
  rw [joinL_jn] at e
  exact e
theorem join_eq {ws : List (List Nat)} (h1 : ∀ w ∈ ws, w.length ≤ 100) (h2 : ws.length ≤ 100) : joinD (.str " ") [.lst (ws.map S)] st = .ok (S (jn ws)) st := by
  have hb := sum_bound h1
  have hp : 100 * ws.length ≤ 100 * 100 := Nat.mul_le_mul_left _ h2
  unfold joinD
  simp only [seqOf_lst, strsOf_S, blank]
  rw [if_pos, join_jn]
  rw [List.length_map]
  show _ + ws.length * 1 ≤ _
  omega
theorem addl_S {a b : List (List Nat)} (h : a.length + b.length ≤ 1000) : addL (.lst (a.map S)) (.lst (b.map S)) st = .ok (.lst (a.map S ++ b.map S)) st := by
  rw [addL_lst, if_pos (by rw [List.length_map, List.length_map]; simp only [LIM]; omega)]
/-! ### a spoilt text -/
def SGN : List Nat := (Str.ofString "abcdefg 0123456789rowshltnup_-D\n").cps.toList
theorem sgn_pick (P : Pool st s) : ∃ c, c < 0x110000 ∧ ∃ st', m_law_pick [.cell 0, .str "abcdefg 0123456789rowshltnup_-D\n"] st = .ok (S [c]) st' ∧ Pool st' s := by
  have hz : Str.ofString "abcdefg 0123456789rowshltnup_-D\n" = ⟨SGN.toArray⟩ := rfl
  have hn : SGN.length = 32 := by decide +kernel
  obtain ⟨k, st1, e, a, b, P1⟩ := draw_eq P (n := 32) (by decide) (by decide)
  obtain ⟨j, rfl⟩ := Int.eq_ofNat_of_zero_le a
  have hj : j < SGN.length := by omega
  have hc : ∀ c ∈ SGN, c < 0x110000 := by decide +kernel
  refine ⟨SGN[j], hc _ (List.getElem_mem hj), st1, ?_, P1⟩
  have e1 : ixD (S SGN) (.int (j : Int)) st1 = .ok (S [SGN[j]]) st1 := by
    show (if (⟨SGN.toArray⟩ : Str).length ≤ LIM then (match atI SGN (j : Int) with
      | some c => Res.ok (D.str ⟨#[c]⟩) st1
      | none => .bad) else .bad) = _
    rw [if_pos (by rw [S_len, hn]; simp only [LIM]; omega), atI_cast, List.getElem?_eq_getElem hj]
  have e2 : lenD [] [S SGN] st = .ok (.int 32) st := by
    rw [lenD_str, if_pos (by rw [S_len, hn]; simp only [LIM]; omega), S_len, hn]
    rfl
  rw [hz]
  simp [m_law_pick, runBody_app, b_law_pick, env0, ↓e2, ↓e, ↓e1]
theorem spoilt_eq {w l : List Nat} {x : Lm} (hf : isFill w x l = true) (hl : Ok l) (hll : l.length ≤ 6) (P : Pool st s) : ∃ t, Ok t ∧ t.length ≤ 300 ∧ ∃ st', m_law_spoilt [.cell 0, T3 w x l] st = .ok (S t) st' ∧ Pool st' s := by
  have hw := ways_short w (fill_way hf)
  have hb := fill_limB hf
  have e0 : ∀ st, m_law_text [T3 w x l] st = .ok (S (txt w x l)) st := fun st => law_text_eq (by omega) (by omega) hb
  have tl := txt_len w l x
  have hW := wds_txt hf
  have tne : 0 < (txt w x l).length := by
    have : 0 < w.length := by
      rcases List.mem_cons.mp (fill_way hf) with z | z
      · rw [z]; decide
      · have : ∀ v ∈ WAYS, 0 < v.length := by decide
        exact this w z
    unfold txt
    rw [List.length_append, List.length_append]
    omega
  have hW1 : ∀ v ∈ wsOf w x l, Ok v ∧ v.length ≤ 10 := by
    intro v hv
    unfold wsOf haltW at hv
    have r1 : Ok RW ∧ RW.length ≤ 10 := ⟨ok_rw, by decide⟩
    have r2 : Ok HA ∧ HA.length ≤ 10 := ⟨ok_ha, by decide⟩
    have r3 : Ok l ∧ l.length ≤ 10 := ⟨hl, by omega⟩
    have hd : ∀ v ∈ (if l = [45] then [] else [HA, l]), Ok v ∧ v.length ≤ 10 := by
      intro v hv
      split at hv
      · simp at hv
      · simp only [List.mem_cons, List.not_mem_nil, or_false] at hv
        rcases hv with rfl | rfl
        · exact r2
        · exact r3
    rcases List.mem_cons.mp hv with z | z
    · rw [z]; exact hw
    · rcases List.mem_append.mp z with z | z
      · cases x with
        | i k =>
          simp only [rowsW, List.mem_cons, List.not_mem_nil, or_false] at z
          rcases z with rfl | rfl
          · exact r1
          · refine ⟨fun c hc => ?_, by simp [num]⟩
            rw [List.mem_singleton.mp hc]
            rcases num_cases hb with rfl | rfl | rfl | rfl | rfl | rfl <;> decide
        | no => simp [rowsW] at z
        | b q => simp [rowsW] at z
      · exact hd v z
  have hW2 : (wsOf w x l).length ≤ 5 := by
    unfold wsOf haltW
    rw [List.length_cons, List.length_append]
    have : (rowsW x).length ≤ 2 := by cases x <;> simp [rowsW]
    split <;> simp <;> omega
  have ot : Ok (txt w x l) := by
    rw [← jn_wsOf]
    exact jn_ok fun v hv => (hW1 v hv).1
  have es : ∀ st, splitD (S (txt w x l)) [.str " "] st = .ok (.lst ((wsOf w x l).map S)) st := fun st => by
    rw [splitD_wds (by omega), hW]
  generalize wsOf w x l = W at es hW1 hW2
  generalize txt w x l = t at e0 es tl tne ot
  have htl : t.length ≤ 29 := by omega
  obtain ⟨kd, st1, d1, k0, k7, P1⟩ := draw_eq P (n := 7) (by decide) (by decide)
  obtain ⟨at_, st2, d2, _, _, P2⟩ := draw_eq P1 (n := t.length) (by omega) (by omega)
  obtain ⟨c, hc, st3, d3, P3⟩ := sgn_pick P2
  have le : ∀ st, lenD [] [S t] st = .ok (.int t.length) st := fun st => by
    rw [lenD_str, if_pos (by rw [S_len]; simp only [LIM]; omega), S_len]
  have sS : ∀ lo hi st, slD (S t) lo hi st = .ok (S (slS t lo hi)) st := fun lo hi st => slS_eq (by omega)
  have sW : ∀ lo hi st, slD (.lst (W.map S)) lo hi st = .ok (.lst ((slW W lo hi).map S)) st := fun lo hi st => slW_eq
  have n1 := fun lo hi => (slS_sub t lo hi).1
  have n2 := fun lo hi => (slW_sub W lo hi).1
  have o1 := fun lo hi => slS_ok (lo := lo) (hi := hi) ot
  have o2 := fun lo hi => (slW_sub W lo hi).2
  have p1 : ∀ a b a' b' st, addL (S (slS t a b)) (S (slS t a' b')) st = .ok (S (slS t a b ++ slS t a' b')) st := fun a b a' b' st => add_S (by have := n1 a b; have := n1 a' b'; omega)
  have p2 : ∀ a b st, addL (S (slS t a b)) (S [c]) st = .ok (S (slS t a b ++ [c])) st := fun a b st => add_S (by have := n1 a b; simp only [List.length_singleton]; omega)
  have p3 : ∀ a b a' b' st, addL (S (slS t a b ++ [c])) (S (slS t a' b')) st = .ok (S (slS t a b ++ [c] ++ slS t a' b')) st := fun a b a' b' st => add_S (by have := n1 a b; have := n1 a' b'; simp only [List.length_append, List.length_singleton]; omega)
  have q1 : ∀ a b a' b' st, addL (.lst ((slW W a b).map S)) (.lst ((slW W a' b').map S)) st = .ok (.lst ((slW W a b).map S ++ (slW W a' b').map S)) st := fun a b a' b' st => addl_S (by have := n2 a b; have := n2 a' b'; omega)
  have q2 : ∀ a b a' b' a2 b2 st, addL (.lst ((slW W a b).map S ++ (slW W a' b').map S)) (.lst ((slW W a2 b2).map S)) st = .ok (.lst ((slW W a b).map S ++ ((slW W a' b').map S ++ (slW W a2 b2).map S))) st := fun a b a' b' a2 b2 st => by
    rw [← List.append_assoc, ← List.map_append]
    exact addl_S (by have := n2 a b; have := n2 a' b'; have := n2 a2 b2; rw [List.length_append]; omega)
  have hm2 : ∀ a b a' b', (∀ v ∈ slW W a b ++ slW W a' b', v ∈ W) := fun a b a' b' v hv => by
    rcases List.mem_append.mp hv with z | z
    · exact o2 _ _ v z
    · exact o2 _ _ v z
  have hm3 : ∀ a b a' b' a2 b2, (∀ v ∈ slW W a b ++ slW W a' b' ++ slW W a2 b2, v ∈ W) := fun a b a' b' a2 b2 v hv => by
    rcases List.mem_append.mp hv with z | z
    · exact hm2 _ _ _ _ v z
    · exact o2 _ _ v z
  have j2 : ∀ a b a' b' st, joinD (.str " ") [.lst ((slW W a b).map S ++ (slW W a' b').map S)] st = .ok (S (jn (slW W a b ++ slW W a' b'))) st := fun a b a' b' st => by
    rw [← List.map_append]
    exact join_eq (fun v hv => Nat.le_trans (hW1 v (hm2 _ _ _ _ v hv)).2 (by decide)) (by have := n2 a b; have := n2 a' b'; rw [List.length_append]; omega)
  have j3 : ∀ a b a' b' a2 b2 st, joinD (.str " ") [.lst ((slW W a b).map S ++ ((slW W a' b').map S ++ (slW W a2 b2).map S))] st = .ok (S (jn (slW W a b ++ slW W a' b' ++ slW W a2 b2))) st := fun a b a' b' a2 b2 st => by
    rw [← List.append_assoc, ← List.map_append, ← List.map_append]
    exact join_eq (fun v hv => Nat.le_trans (hW1 v (hm3 _ _ _ _ _ _ v hv)).2 (by decide)) (by have := n2 a b; have := n2 a' b'; have := n2 a2 b2; rw [List.length_append, List.length_append]; omega)
  have f2 : ∀ a b a' b', Ok (jn (slW W a b ++ slW W a' b')) ∧ (jn (slW W a b ++ slW W a' b')).length ≤ 300 := fun a b a' b' => by
    refine ⟨jn_ok fun v hv => (hW1 v (hm2 _ _ _ _ v hv)).1, ?_⟩
    have := jn_bound (n := 10) fun v hv => (hW1 v (hm2 a b a' b' v hv)).2
    have := n2 a b; have := n2 a' b'
    rw [List.length_append] at *
    omega
  have f3 : ∀ a b a' b' a2 b2, Ok (jn (slW W a b ++ slW W a' b' ++ slW W a2 b2)) ∧ (jn (slW W a b ++ slW W a' b' ++ slW W a2 b2)).length ≤ 300 := fun a b a' b' a2 b2 => by
    refine ⟨jn_ok fun v hv => (hW1 v (hm3 _ _ _ _ _ _ v hv)).1, ?_⟩
    have := jn_bound (n := 10) fun v hv => (hW1 v (hm3 a b a' b' a2 b2 v hv)).2
    have := n2 a b; have := n2 a' b'; have := n2 a2 b2
    rw [List.length_append, List.length_append] at *
    omega
  have oc : Ok [c] := fun d hd => by rw [List.mem_singleton.mp hd]; exact hc
  have hk : kd = 0 ∨ kd = 1 ∨ kd = 2 ∨ kd = 3 ∨ kd = 4 ∨ kd = 5 ∨ kd = 6 := by omega
  rcases hk with rfl | rfl | rfl | rfl | rfl | rfl | rfl
  · refine ⟨slS t none (some at_) ++ slS t (some (at_ + 1)) none, (o1 _ _).append (o1 _ _), by have := n1 none (some at_); have := n1 (some (at_ + 1)) none; rw [List.length_append]; omega, st3, ?_, P3⟩
    simp [LIM, m_law_spoilt, runBody_app, b_law_spoilt, env0, ↓e0, ↓es, ↓d1, ↓le, ↓d2, ↓d3, ↓sS, ↓p1]
  · refine ⟨slS t none (some at_) ++ [c] ++ slS t (some at_) none, ((o1 _ _).append oc).append (o1 _ _), by have := n1 none (some at_); have := n1 (some at_) none; rw [List.length_append, List.length_append, List.length_singleton]; omega, st3, ?_, P3⟩
    simp [LIM, m_law_spoilt, runBody_app, b_law_spoilt, env0, ↓e0, ↓es, ↓d1, ↓le, ↓d2, ↓d3, ↓sS, ↓p2, ↓p3]
  · refine ⟨slS t none (some at_) ++ [c] ++ slS t (some (at_ + 1)) none, ((o1 _ _).append oc).append (o1 _ _), by have := n1 none (some at_); have := n1 (some (at_ + 1)) none; rw [List.length_append, List.length_append, List.length_singleton]; omega, st3, ?_, P3⟩
    simp [LIM, m_law_spoilt, runBody_app, b_law_spoilt, env0, ↓e0, ↓es, ↓d1, ↓le, ↓d2, ↓d3, ↓sS, ↓p2, ↓p3]
  · refine ⟨jn (slW W none (some 1) ++ slW W (some 3) none ++ slW W (some 1) (some 3)), (f3 ..).1, (f3 ..).2, st3, ?_, P3⟩
    simp only [LIM, m_law_spoilt, runBody_app, b_law_spoilt, env0]
    simp [LIM, ↓e0, ↓es, ↓d1, ↓le, ↓d2, ↓d3, ↓sW, ↓q1, ↓q2, ↓j3]
  · refine ⟨jn (slW W none (some (1 + at_.fmod 5)) ++ slW W (some (2 + at_.fmod 5)) none), (f2 ..).1, (f2 ..).2, st3, ?_, P3⟩
    simp [LIM, m_law_spoilt, runBody_app, b_law_spoilt, env0, ↓e0, ↓es, ↓d1, ↓le, ↓d2, ↓d3, ↓sW, ↓q1, ↓j2]
  · refine ⟨jn (slW W none (some (1 + at_.fmod 5)) ++ slW W (some (at_.fmod 5)) none), (f2 ..).1, (f2 ..).2, st3, ?_, P3⟩
    simp [LIM, m_law_spoilt, runBody_app, b_law_spoilt, env0, ↓e0, ↓es, ↓d1, ↓le, ↓d2, ↓d3, ↓sW, ↓q1, ↓j2]
  · obtain ⟨l', h1, h2, st4, e4, P4⟩ := odd_eq P3
    refine ⟨l', h1, by omega, st4, ?_, P4⟩
    simp [LIM, m_law_spoilt, runBody_app, b_law_spoilt, env0, ↓e0, ↓es, ↓d1, ↓le, ↓d2, ↓d3, ↓e4]
end
end W19
namespace W19
open PySem PySem.Spec PyProof.Rows L2 ClX ItX Mi
section
variable {st s : Sto}
/-! ### the law -/
def wayL : List D := [.str "down", .str "up", .str "near_above", .str "near_below", .str "drop", .str "side", .str "near", .str "Down", .str "", .str "down rows 1"]
theorem way_at {i : Int} (h0 : 0 ≤ i) (h1 : i < 10) : ∃ w, Ok w ∧ w.length ≤ 20 ∧ ∀ st, ixD (.lst wayL) (.int i) st = .ok (S w) st := by
  obtain ⟨j, rfl⟩ := Int.eq_ofNat_of_zero_le h0
  have hj : j < wayL.length := by show j < 10; omega
  have hc : wayL.all (chk 20) = true := by decide +kernel
  obtain ⟨w, e, a, b⟩ := tx_chk (List.all_eq_true.mp hc wayL[j] (List.getElem_mem hj))
  refine ⟨w, a, b, fun st => ?_⟩
  rw [ixD_lst, atI_cast, List.getElem?_eq_getElem hj, e]
  rfl
noncomputable def bodyI : SM := (sIf (tOrM (tNotM (tVal tru0 (eCall (mCall 3 [] m_law_made) (aCons (eVar 4) (aCons (eVar 7) (aCons (eVar 6) aNil)))))) (tNotM (tVal tru0 (eCall (mCall 3 [] m_law_made) (aCons (eVar 4) (aCons (eVar 7) (aCons (eC (.str "-")) aNil))))))) (sRet (eC (.bl false))) sNil)
noncomputable def bodyK : SM := (sSeq (sSet 4 (eOp ixD (eVar 2) (eOp opMod (eOp addL (eCall (mCall 2 [] m_law_draw) (aCons (eVar 1) (aCons (eC (.int 10)) aNil))) (eOp mulL (eC (.int 2)) (eVar 3))) (eC (.int 10)))))
  (sSeq (sSet 5 (eCall (mCall 1 [] m_law_limit) (aCons (eVar 1) aNil)))
  (sSeq (sSet 6 (eCall (mCall 1 [] m_law_stop) (aCons (eVar 1) aNil)))
  (sSeq (sFor (iVal (eL (lLst (aCons (eVar 5) (aCons (eC .non) aNil))))) (gN 7) bodyI)
  (sIf (tNotM (tVal tru0 (eCall (mCall 3 [] m_law_short) (aCons (eVar 4) (aCons (eVar 5) (aCons (eVar 6) aNil)))))) (sRet (eC (.bl false))) sNil)))))
theorem turn_I {E0 E1 E2 E3 E5 x8 x9 x10 : Slot} {w l : List Nat} {x : Lm} (hw : Ok w) (hl : Ok l) : bodyI [E0, E1, E2, E3, .sh (S w), E5, .sh (S l), .sh x.d, x8, x9, x10] st = .nx [E0, E1, E2, E3, .sh (S w), E5, .sh (S l), .sh x.d, x8, x9, x10] st := by
  have e1 := made_eq (st := st) (x := x) hw hl
  have e2 := made_eq (st := st) (x := x) hw ok_dash
  simp [LIM, bodyI, lit_dash, ↓e1, ↓e2]
theorem loop_I {E0 E1 E2 E3 x7 x8 x9 x10 : Slot} {w l : List Nat} {x : Lm} (hw : Ok w) (hl : Ok l) : forLoop (gN 7) bodyI [x.d, .non] [E0, E1, E2, E3, .sh (S w), .sh x.d, .sh (S l), x7, x8, x9, x10] st = .nx [E0, E1, E2, E3, .sh (S w), .sh x.d, .sh (S l), .sh .non, x8, x9, x10] st := by
  have e1 := turn_I (st := st) (E0 := E0) (E1 := E1) (E2 := E2) (E3 := E3) (E5 := .sh x.d) (x8 := x8) (x9 := x9) (x10 := x10) (x := x) hw hl
  have e2 : bodyI [E0, E1, E2, E3, .sh (S w), .sh x.d, .sh (S l), .sh .non, x8, x9, x10] st = _ := turn_I (st := st) (E0 := E0) (E1 := E1) (E2 := E2) (E3 := E3) (E5 := .sh x.d) (x8 := x8) (x9 := x9) (x10 := x10) (x := .no) hw hl
  have e2' : bodyI [E0, E1, E2, E3, .sh (S w), .sh x.d, .sh (S l), .sh .non, x8, x9, x10] st = .nx [E0, E1, E2, E3, .sh (S w), .sh x.d, .sh (S l), .sh .non, x8, x9, x10] st := e2
  rw [forLoop_cons]
  show (bodyI [E0, E1, E2, E3, .sh (S w), .sh x.d, .sh (S l), .sh x.d, x8, x9, x10] st).loop _ = _
  rw [e1, loop_nx, forLoop_cons]
  show (bodyI [E0, E1, E2, E3, .sh (S w), .sh x.d, .sh (S l), .sh .non, x8, x9, x10] st).loop _ = _
  rw [e2', loop_nx]
  rfl
theorem turn_K {E0 x4 x5 x6 x7 x8 x9 x10 : Slot} {k : Nat} (hk : k ≤ 3) (P : Pool st s) : ∃ st' y4 y5 y6 y7, bodyK [E0, .sh (.cell 0), .sh (.lst wayL), .sh (.int (k : Int)), x4, x5, x6, x7, x8, x9, x10] st = .nx [E0, .sh (.cell 0), .sh (.lst wayL), .sh (.int (k : Int)), y4, y5, y6, y7, x8, x9, x10] st' ∧ Pool st' s := by
  obtain ⟨n, st1, e1, _, _, P1⟩ := draw_eq P (n := 10) (by decide) (by decide)
  obtain ⟨h0, h1⟩ := fmod_in (n + 2 * (k : Int)) (n := 10) (by decide)
  obtain ⟨w, hw, _, e2⟩ := way_at h0 h1
  obtain ⟨x, st2, e3, P2⟩ := limit_drawn P1
  obtain ⟨l, hl, _, st3, e4, P3⟩ := stop_eq P2
  have mu : ∀ st, mulL (.int 2) (.int (k : Int)) st = .ok (.int (2 * (k : Int))) st := fun st => mulL_ok (.inl (by decide))
  have e5 := loop_I (st := st3) (E0 := E0) (E1 := .sh (.cell 0)) (E2 := .sh (.lst wayL)) (E3 := .sh (.int (k : Int))) (x7 := x7) (x8 := x8) (x9 := x9) (x10 := x10) (x := x) hw hl
  have e6 := short_eq (st := st3) (x := x) hw hl
  refine ⟨st3, .sh (S w), .sh x.d, .sh (S l), .sh .non, ?_, P3⟩
  simp only [bodyK]
  simp [LIM, ↓e1, ↓mu, ↓e2, ↓e3, ↓e4, ↓e5, ↓e6]
theorem loop_K {E0 x3 x4 x5 x6 x7 x8 x9 x10 : Slot} (P : Pool st s) : ∃ st' y3 y4 y5 y6 y7, forLoop (gN 3) bodyK (rngL 0 3) [E0, .sh (.cell 0), .sh (.lst wayL), x3, x4, x5, x6, x7, x8, x9, x10] st = .nx [E0, .sh (.cell 0), .sh (.lst wayL), y3, y4, y5, y6, y7, x8, x9, x10] st' ∧ Pool st' s := by
  obtain ⟨env', st', e, h1, y3, y4, y5, y6, y7, rfl, P'⟩ := for_inv (tg := gN 3) (ma := bodyK) (fun ds env st => (∀ d ∈ ds, ∃ k : Nat, k ≤ 3 ∧ d = .int (k : Int)) ∧ ∃ y3 y4 y5 y6 y7, env = [E0, .sh (.cell 0), .sh (.lst wayL), y3, y4, y5, y6, y7, x8, x9, x10] ∧ Pool st s) (rngL 0 3) [E0, .sh (.cell 0), .sh (.lst wayL), x3, x4, x5, x6, x7, x8, x9, x10] st
    ⟨fun d hd => by
      have : rngL 0 3 = [.int ((0 : Nat) : Int), .int ((1 : Nat) : Int), .int ((2 : Nat) : Int)] := rfl
      rw [this] at hd
      simp only [List.mem_cons, List.not_mem_nil, or_false] at hd
      rcases hd with rfl | rfl | rfl
      · exact ⟨0, by decide, rfl⟩
      · exact ⟨1, by decide, rfl⟩
      · exact ⟨2, by decide, rfl⟩, x3, x4, x5, x6, x7, rfl, P⟩
    (fun d ds env st h => by
      obtain ⟨h1, y3, y4, y5, y6, y7, rfl, P⟩ := h
      obtain ⟨k, hk, rfl⟩ := h1 d (List.mem_cons_self ..)
      obtain ⟨st', z4, z5, z6, z7, e, P'⟩ := turn_K (E0 := E0) (x4 := y4) (x5 := y5) (x6 := y6) (x7 := y7) (x8 := x8) (x9 := x9) (x10 := x10) hk P
      exact ⟨_, rfl, _, _, .inl e, fun d hd => h1 d (List.mem_cons_of_mem _ hd), _, _, _, _, _, rfl, P'⟩)
  exact ⟨st', y3, y4, y5, y6, y7, e, P'⟩
noncomputable def bodyA : SM := (sAppO 9 (eCall (mCall 2 [] m_law_spoilt) (aCons (eVar 1) (aCons (eVar 8) aNil))))
theorem loop_A {E0 E2 x3 x4 x5 x6 x7 x10 : Slot} {w l : List Nat} {x : Lm} (hf : isFill w x l = true) (hl : Ok l) (hll : l.length ≤ 6) {ts : List (List Nat)} (ht : ∀ t ∈ ts, Ok t ∧ t.length ≤ 300) (hn : ts.length ≤ 10) (P : Pool st s) :
    ∃ (st' : Sto) (y3 : Mi.Slot) (us : List (List Nat)), forLoop (gN 3) bodyA (rngL 0 3) [E0, .sh (.cell 0), E2, x3, x4, x5, x6, x7, .sh (T3 w x l), .oL (ts.map S), x10] st = .nx [E0, .sh (.cell 0), E2, y3, x4, x5, x6, x7, .sh (T3 w x l), .oL (us.map S), x10] st' ∧ (∀ t ∈ us, Ok t ∧ t.length ≤ 300) ∧ Pool st' s := by
  obtain ⟨env', st', e, y3, us, rfl, h1, _, P'⟩ := for_inv (tg := gN 3) (ma := bodyA) (fun ds env st => ∃ (y3 : Mi.Slot) (us : List (List Nat)), env = [E0, .sh (.cell 0), E2, y3, x4, x5, x6, x7, .sh (T3 w x l), .oL (us.map S), x10] ∧ (∀ t ∈ us, Ok t ∧ t.length ≤ 300) ∧ us.length + ds.length ≤ 20 ∧ Pool st s) (rngL 0 3) [E0, .sh (.cell 0), E2, x3, x4, x5, x6, x7, .sh (T3 w x l), .oL (ts.map S), x10] st
    ⟨x3, ts, rfl, ht, by show ts.length + 3 ≤ 20; omega, P⟩
    (fun d ds env st h => by
      obtain ⟨y3, us, rfl, h1, h2, P⟩ := h
      rw [List.length_cons] at h2
      obtain ⟨t, a, b, st1, e1, P1⟩ := spoilt_eq hf hl hll P
      refine ⟨_, rfl, _, st1, .inl ?_, .sh d, us ++ [t], rfl, fun v hv => ?_, ?_, P1⟩
      · have hlt : us.length < 16777216 := by omega
        simp [LIM, bodyA, ↓e1, hlt]
      · rcases List.mem_append.mp hv with z | z
        · exact h1 v z
        · rw [List.mem_singleton.mp z]; exact ⟨a, b⟩
      · rw [List.length_append, List.length_singleton]; omega)
  exact ⟨st', y3, us, e, h1, P'⟩
noncomputable def bodyR : SM := (sIf (tNotM (tVal tru0 (eCall (mCall 1 [] m_law_reads) (aCons (eVar 10) aNil)))) (sRet (eC (.bl false))) sNil)
theorem loop_R {E0 E1 E2 x3 x4 x5 x6 x7 x8 x9 : Slot} : ∀ {ts : List (List Nat)} {x10 : Slot}, (∀ t ∈ ts, Ok t ∧ t.length ≤ 300) → ∃ y10, forLoop (gN 10) bodyR (ts.map S) [E0, E1, E2, x3, x4, x5, x6, x7, x8, x9, x10] st = .nx [E0, E1, E2, x3, x4, x5, x6, x7, x8, x9, y10] st
  | [], x10, _ => ⟨x10, rfl⟩
  | t :: ts, x10, h => by
    obtain ⟨a, b⟩ := h t (List.mem_cons_self ..)
    obtain ⟨y10, e⟩ := loop_R (ts := ts) (x10 := .sh (S t)) fun v hv => h v (List.mem_cons_of_mem _ hv)
    have e1 := reads_eq (st := st) b a
    refine ⟨y10, ?_⟩
    rw [List.map_cons, forLoop_cons]
    show (bodyR [E0, E1, E2, x3, x4, x5, x6, x7, x8, x9, .sh (S t)] st).loop _ = _
    have e2 : bodyR [E0, E1, E2, x3, x4, x5, x6, x7, x8, x9, .sh (S t)] st = .nx [E0, E1, E2, x3, x4, x5, x6, x7, x8, x9, .sh (S t)] st := by
      simp [bodyR, ↓e1]
    rw [e2, loop_nx]
    exact e
theorem hb_law : b_law = (sSeq (sSet 1 (eCall (mCall 1 [] m_law_pool) (aCons (eVar 0) aNil)))
  (sSeq (sSet 2 (eL (lLst (aCons (eC (.str "down")) (aCons (eC (.str "up")) (aCons (eC (.str "near_above")) (aCons (eC (.str "near_below")) (aCons (eC (.str "drop")) (aCons (eC (.str "side")) (aCons (eC (.str "near")) (aCons (eC (.str "Down")) (aCons (eC (.str "")) (aCons (eC (.str "down rows 1")) aNil)))))))))))))
  (sSeq (sFor (iR1 (aCons (eC (.int 3)) aNil)) (gN 3) bodyK)
  (sSeq (sSet 8 (eCall (mCall 1 [] m_law_good) (aCons (eVar 1) aNil)))
  (sSeq (sOwn 9 (lLst (aCons (eCall (mCall 1 [] m_law_text) (aCons (eVar 8) aNil)) (aCons (eCall (mCall 1 [] m_law_odd) (aCons (eVar 1) aNil)) aNil))))
  (sSeq (sFor (iR1 (aCons (eC (.int 3)) aNil)) (gN 3) bodyA)
  (sFrz 9 (sSeq (sFor (iVal (eVar 9)) (gN 10) bodyR)
  (sSeq (sSet 10 (eCall (mCall 1 [] m_law_text) (aCons (eVar 8) aNil)))
  (sRet (eAnd tru0 (eOp eq1 (eCall (mCall 1 [] m_fill_text) (aCons (eVar 8) aNil)) (eVar 10)) (eCall (mCall 2 [] m_law_is_step) (aCons (eCall (mCall 1 [] m_read_fill) (aCons (eVar 10) aNil)) (aCons (eVar 8) aNil)))))))))))))) := rfl
theorem law_eq : ∀ ns : List Int, ns.length ≤ 63 → ∃ st, m_law [.fix (ns.map D.int)] [] = .ok (.bl true) st := by
  intro ns h
  obtain ⟨st0, e0, P0⟩ := pool_eq h
  obtain ⟨st1, y3, y4, y5, y6, y7, e1, P1⟩ := loop_K (E0 := .sh (.fix (ns.map D.int))) (x3 := .no) (x4 := .no) (x5 := .no) (x6 := .no) (x7 := .no) (x8 := .no) (x9 := .no) (x10 := .no) P0
  obtain ⟨d, st2, e2, hd, P2⟩ := good_eq P1
  obtain ⟨w, x, l, rfl, hf, hl, hll⟩ := good3 hd
  have hw := ways_short w (fill_way hf)
  have hb := fill_limB hf
  have e3 : ∀ st, m_law_text [T3 w x l] st = .ok (S (txt w x l)) st := fun st => law_text_eq (by omega) (by omega) hb
  have e4 : ∀ st, m_fill_text [T3 w x l] st = .ok (S (txt w x l)) st := fun st => fill_text_eq (by omega) (by omega) hb
  have tl := txt_len w l x
  have hW := wds_txt hf
  have ot : Ok (txt w x l) := by
    have r := rows_len x
    intro c hc
    unfold txt at hc
    rcases List.mem_append.mp hc with z | z
    · rcases List.mem_append.mp z with z | z
      · exact hw.1 c z
      · cases x with
        | i k =>
          rcases List.mem_append.mp z with z | z
          · have : ∀ c ∈ ROWS_, c < 0x110000 := by decide
            exact this c z
          · rw [List.mem_singleton.mp z]
            rcases num_cases hb with rfl | rfl | rfl | rfl | rfl | rfl <;> decide
        | no => simp [rowsT] at z
        | b q => simp [rowsT] at z
    · unfold haltT at z
      split at z
      · simp at z
      · rcases List.mem_append.mp z with z | z
        · have : ∀ c ∈ HALT_, c < 0x110000 := by decide
          exact this c z
        · exact hl c z
  obtain ⟨t, a, b, st3, e5, P3⟩ := odd_eq P2
  obtain ⟨st4, z3, us, e6, hu, P4⟩ := loop_A (E0 := .sh (.fix (ns.map D.int))) (E2 := .sh (.lst wayL)) (x3 := y3) (x4 := y4) (x5 := y5) (x6 := y6) (x7 := y7) (x10 := .no) hf hl hll (ts := [txt w x l, t]) (fun v hv => by
    simp only [List.mem_cons, List.not_mem_nil, or_false] at hv
    rcases hv with rfl | rfl
    · exact ⟨ot, by omega⟩
    · exact ⟨a, by omega⟩) (by simp) P3
  obtain ⟨y10, e7⟩ := loop_R (st := st4) (E0 := .sh (.fix (ns.map D.int))) (E1 := .sh (.cell 0)) (E2 := .sh (.lst wayL)) (x3 := z3) (x4 := y4) (x5 := y5) (x6 := y6) (x7 := y7) (x8 := .sh (T3 w x l)) (x9 := .sh (.lst (us.map S))) (x10 := .no) hu
  have e8 := read_eq (st := st4) (l := txt w x l) (by omega) ot
  rw [stepOf_wsOf hf hW] at e8
  have e8' : m_read_fill [S (txt w x l)] st4 = .ok (T3 w x l) st4 := e8
  have e9 := is_step_eq (st := st4) hw.1 hl (fill_notb hf)
  rw [show ([txt w x l, t] : List (List Nat)).map S = [S (txt w x l), S t] from rfl] at e6
  refine ⟨st4, ?_⟩
  unfold wayL at e1 e6 e7
  simp [LIM, m_law, runBody_app, hb_law, env0, ↓e0, ↓e1, ↓e2, ↓e3, ↓e4, ↓e5, ↓e6, ↓e7, ↓e8', ↓e9]
end
end W19
open PySem PySem.W PySem.Calls PyProof.Rows
set_option maxRecDepth 100000 in
set_option maxHeartbeats 0 in
theorem PySem.Challenge.cw_pagebureau_k19_fill_text_and_refusals_holds : PySem.Challenge.rw_pagebureau_k19_fill_text_and_refusals.Holds := by
  w_on; o_law
  refine HandSHeadRun.head_any (r := W19.hR) (q := view W19.hR.prog [40]) (H := W19.hHk) (ob := W19.hOb) (M := 20000) (loose := W19.hNs) (d := HandSHeadRun.topDef W19.hR.prog 40) (kwd := []) W19.hOb_eq (by kernel_rfl) (fun s => by kernel_rfl) W19.hRun
    (by kernel_rfl) (by kernel_rfl) (by kernel_rfl) (by rfl) (by first | assumption | decide +kernel) (by decide +kernel) ⟨rfl, rfl, rfl, rfl, rfl, by decide +kernel⟩ ?hw ?hc
  case hw => w_witness2
  case hc =>
    refine Mi.law_walkD (l := PySem.Challenge.rw_pagebureau_k19_fill_text_and_refusals) (as := W19.hAs) (chk := W19.hChk) (fn := W19.hFn) (tabs := W19.hTabs) (k := 19) (x := "_law_script") (m := W19.m_law) rfl (by kernel_rfl) ⟨rfl, by decide, by decide⟩ W19.law_eq ?_
    intro w K mg fa h KX c G hmg0
    have hmg : mg ("law" : PySem.Str) = some (.ref fa) := by
      have e : (HandSHeadRun.topDef W19.hR.prog 40).name = ("law" : PySem.Str) := by kernel_rfl
      rw [← e]
      exact hmg0
    exact W19.all_mkK KX G hmg c
